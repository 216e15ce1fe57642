import PyProof.Rows.All
import Wide.All
import OpenK.AllK
import Wide.FinOn
import HandS.ForMost
import HandS.ForExc
import HandS.Walk
import HandS.EndBits
import HandS.NoneIn
import HandS.Wide
import HandS.Style
import HandS.TupAny
import HandS.TupMul
import HandS.Deep
import HandS.IsInst
import KE.SortData
import KE.DataMinMax
import HandS.Rev
import HandS.Zip
import KE.GoesEnum
import HandS.RaiseMore
import HandS.WideMore
import HandS.WideBits
import HandS.Conv
import PySem.Challenge.RW_sortdoors_k18_the_long_row_of_few
set_option Elab.async false
set_option linter.all false
set_option maxRecDepth 100000
set_option maxHeartbeats 4000000
/-! Y, part A: data as trees, what stands for them on the heap, how they stay. -/
namespace Y
open PySem L2

/-- data: None, truth, number, text, tuple, list, dict (keys, values), an object of a class (fields by name) -/
inductive Dt where
  | n | b (x : Bool) | i (x : Int) | s (x : Str) | t (xs : List Dt) | l (xs : List Dt)
  | m (ks vs : List Dt) | o (c : Str) (ns : List Str) (fs : List Dt)
  /-- a list that nobody may change (the script) -/
  | z (xs : List Dt)
/-- who else may hold the lists within: c anybody, t nobody the list itself, a nobody any -/
inductive Md where
  | c | t | a
  deriving DecidableEq
abbrev Vl := Dt × Md
abbrev Ev := List (Option Vl)
inductive Ou (α : Type) where
  | ok (x : α) (r : Ev) | ex (c : Str) (fs : List (Str × Dt)) (r : Ev) | no

mutual
def Dt.flat : Dt → Bool
  | .t xs => flatL xs
  | .z xs => flatL xs
  | .l _ => false
  | .m _ _ => false
  | .o _ _ _ => false
  | _ => true
def flatL : List Dt → Bool
  | [] => true
  | x :: xs => x.flat && flatL xs
end

/-- a list that nobody may change -/
def SqF (K : PySem.W.Frag) (H : Hp) (a : Addr) (vs : List V) : Prop := (∃ o, H a = some (.frz o (.lst vs))) ∨
  ∃ (o : Obj) (its : Array Value) (n : Nat), K.lookup a = some o ∧ o.cls = .type "list" ∧ o.dict = none ∧ o.data = .seq its n ∧ its.size ≤ sizeLine ∧ Vals vs its.toList
theorem SqF.sq {K : PySem.W.Frag} {H : Hp} {a : Addr} {vs : List V} (h : SqF K H a vs) : SqL K H a vs := h.elim (fun ⟨o, z⟩ => .inl (.inr ⟨o, z⟩)) .inr
/-- a key as data -/
def keyD : Key → Dt
  | .inl i => .i i
  | .inr x => .s x
mutual
inductive Co (K : PySem.W.Frag) (M : Addr → Prop) (H : Hp) : V → Dt → Prop
  | n : Co K M H .non .n
  | b (x : Bool) : Co K M H (.bl x) (.b x)
  | i (x : Int) : Co K M H (.int x) (.i x)
  | s (x : Str) : Co K M H (.str x) (.s x)
  | t {a : Addr} {vs : List V} {xs : List Dt} : SqT K H a vs → CoL K M H vs xs → Co K M H (.ref a) (.t xs)
  | l {a : Addr} {vs : List V} {xs : List Dt} : H a = some (.lst vs) → ¬ M a → CoL K M H vs xs → Co K M H (.ref a) (.l xs)
  | z {a : Addr} {vs : List V} {xs : List Dt} : SqF K H a vs → CoL K M H vs xs → Co K M H (.ref a) (.z xs)
  /-- a dict that nobody changes -/
  | m {a : Addr} {kvs : List (Key × V)} {xs : List Dt} : Rd H a (.dK kvs) → CoL K M H (kvs.map (·.2)) xs → Co K M H (.ref a) (.m (kvs.map fun p => keyD p.1) xs)
  /-- an object of a class of the program that nobody changes -/
  | o {a C dx : Addr} {c : Str} {fvs : List (Str × V)} {fs : List Dt} : H a = some (.ins C dx fvs) → PySem.W.nsIn K mainGlobals c = some (some (.ref C)) → CoL K M H (fvs.map (·.2)) fs → Co K M H (.ref a) (.o c (fvs.map (·.1)) fs)
inductive CoL (K : PySem.W.Frag) (M : Addr → Prop) (H : Hp) : List V → List Dt → Prop
  | nil : CoL K M H [] []
  | cons {v : V} {vs : List V} {x : Dt} {xs : List Dt} : Co K M H v x → CoL K M H vs xs → CoL K M H (v :: vs) (x :: xs)
end
mutual
inductive Ho (K : PySem.W.Frag) (H : Hp) : V → Dt → List Addr → Prop
  | n : Ho K H .non .n []
  | b (x : Bool) : Ho K H (.bl x) (.b x) []
  | i (x : Int) : Ho K H (.int x) (.i x) []
  | s (x : Str) : Ho K H (.str x) (.s x) []
  | t {a : Addr} {vs : List V} {xs : List Dt} {F : List Addr} : SqT K H a vs → HoL K H vs xs F → Ho K H (.ref a) (.t xs) F
  | l {a : Addr} {vs : List V} {xs : List Dt} {F : List Addr} : H a = some (.lst vs) → HoL K H vs xs F → Ho K H (.ref a) (.l xs) (a :: F)
  | z {a : Addr} {vs : List V} {xs : List Dt} {F : List Addr} : SqF K H a vs → HoL K H vs xs F → Ho K H (.ref a) (.z xs) F
inductive HoL (K : PySem.W.Frag) (H : Hp) : List V → List Dt → List Addr → Prop
  | nil : HoL K H [] [] []
  | cons {v : V} {vs : List V} {x : Dt} {xs : List Dt} {F F' : List Addr} : Ho K H v x F → HoL K H vs xs F' → HoL K H (v :: vs) (x :: xs) (F ++ F')
end
def Rp (K : PySem.W.Frag) (M : Addr → Prop) (H : Hp) : Md → V → Dt → List Addr → Prop
  | .c, v, x, F => Co K M H v x ∧ F = []
  | .t, v, x, F => ∃ a vs xs, v = .ref a ∧ x = .l xs ∧ F = [a] ∧ H a = some (.lst vs) ∧ CoL K M H vs xs
  | .a, v, x, F => Ho K H v x F

/-- what may be changed is a list -/
def Hotty (M : Addr → Prop) (H : Hp) : Prop := ∀ b, M b → ∃ xs, H b = some (.lst xs)
/-- the cold stays -/
structure Fm (M : Addr → Prop) (H : Hp) (M' : Addr → Prop) (H' : Hp) : Prop where
  keep : ∀ b o, H b = some o → ¬ M b → H' b = some o
  grow : ∀ b, M' b → M b ∨ H b = none
  hot : Hotty M H
section
variable {K : PySem.W.Frag} {M M' : Addr → Prop} {H H' : Hp}
theorem Fm.rd (f : Fm M H M' H') {a : Addr} {u : HO} (h : Rd H a u) (hn : ¬ M a) : Rd H' a u := by
  rcases h with h | ⟨o, h⟩
  · exact .inl (f.keep a _ h hn)
  · exact .inr ⟨o, f.keep a _ h hn⟩
theorem Hotty.nrd (f : Hotty M H) {a : Addr} {vs : List V} (h : Rd H a (.tup vs)) : ¬ M a := fun z => by
  obtain ⟨xs, e⟩ := f a z
  rcases h with h | ⟨o, h⟩ <;> (rw [h] at e; cases e)
theorem Hotty.nls (f : Hotty M H) {a : Addr} {u : HO} (h : Rd H a u) (hu : ∀ vs, u ≠ .lst vs) : ¬ M a := fun z => by
  obtain ⟨xs, e⟩ := f a z
  rcases h with h | ⟨o, h⟩
  · rw [h] at e; cases e; exact hu xs rfl
  · rw [h] at e; cases e
theorem Fm.sqT (f : Fm M H M' H') {a : Addr} {vs : List V} (h : SqT K H a vs) : SqT K H' a vs := by
  rcases h with h | h
  · exact .inl (f.rd h (f.hot.nrd h))
  · exact .inr h
theorem Fm.nm (f : Fm M H M' H') {a : Addr} {u : HO} (h : Rd H a u) (hn : ¬ M a) : ¬ M' a := fun z => by
  rcases f.grow a z with q | q
  · exact hn q
  · rcases h with h | ⟨o, h⟩ <;> (rw [h] at q; cases q)
theorem Fm.sqF (f : Fm M H M' H') {a : Addr} {vs : List V} (h : SqF K H a vs) : SqF K H' a vs := by
  rcases h with ⟨o, h⟩ | h
  · exact .inl ⟨o, f.keep _ _ h fun z => by obtain ⟨xs, e⟩ := f.hot _ z; rw [h] at e; cases e⟩
  · exact .inr h
mutual
theorem Co.fm (f : Fm M H M' H') : ∀ {v : V} {x : Dt}, Co K M H v x → Co K M' H' v x
  | _, _, .n => .n
  | _, _, .b x => .b x
  | _, _, .i x => .i x
  | _, _, .s x => .s x
  | _, _, .t h q => .t (f.sqT h) (CoL.fm f q)
  | _, _, .l h hn q => .l (f.keep _ _ h hn) (f.nm (.inl h) hn) (CoL.fm f q)
  | _, _, .z h q => .z (f.sqF h) (CoL.fm f q)
  | _, _, .m h q => .m (f.rd h (f.hot.nls h fun _ e => by cases e)) (CoL.fm f q)
  | _, _, .o h c q => .o (f.keep _ _ h (f.hot.nls (.inl h) fun _ e => by cases e)) c (CoL.fm f q)
theorem CoL.fm (f : Fm M H M' H') : ∀ {vs : List V} {xs : List Dt}, CoL K M H vs xs → CoL K M' H' vs xs
  | _, _, .nil => .nil
  | _, _, .cons h q => .cons (Co.fm f h) (CoL.fm f q)
end
/-- fewer that may change, the same heap -/
theorem Co.less {v : V} {x : Dt} (h : Co K M H v x) (q : ∀ b, M' b → M b) (ht : Hotty M H) : Co K M' H v x := h.fm ⟨fun _ _ e _ => e, fun b z => .inl (q b z), ht⟩
theorem CoL.less {v : List V} {x : List Dt} (h : CoL K M H v x) (q : ∀ b, M' b → M b) (ht : Hotty M H) : CoL K M' H v x := h.fm ⟨fun _ _ e _ => e, fun b z => .inl (q b z), ht⟩
mutual
theorem Ho.stay (hb : ∀ b xs, Rd H b (.tup xs) → Rd H' b (.tup xs)) (hz : ∀ b o u, H b = some (.frz o u) → H' b = some (.frz o u)) : ∀ {v : V} {x : Dt} {F : List Addr}, Ho K H v x F → (∀ b ∈ F, H' b = H b) → Ho K H' v x F
  | _, _, _, .n, _ => .n
  | _, _, _, .b x, _ => .b x
  | _, _, _, .i x, _ => .i x
  | _, _, _, .s x, _ => .s x
  | _, _, _, .t h q, k => .t (by rcases h with h | h; exact .inl (hb _ _ h); exact .inr h) (HoL.stay hb hz q k)
  | _, _, _, .z h q, k => .z (h.elim (fun ⟨o, z⟩ => .inl ⟨o, hz _ _ _ z⟩) .inr) (HoL.stay hb hz q k)
  | _, _, _, .l h q, k => .l ((k _ List.mem_cons_self).trans h) (HoL.stay hb hz q fun b hb => k b (List.mem_cons_of_mem _ hb))
theorem HoL.stay (hb : ∀ b xs, Rd H b (.tup xs) → Rd H' b (.tup xs)) (hz : ∀ b o u, H b = some (.frz o u) → H' b = some (.frz o u)) : ∀ {vs : List V} {xs : List Dt} {F : List Addr}, HoL K H vs xs F → (∀ b ∈ F, H' b = H b) → HoL K H' vs xs F
  | _, _, _, .nil, _ => .nil
  | _, _, _, .cons h q, k => .cons (Ho.stay hb hz h fun b hb => k b (List.mem_append_left _ hb)) (HoL.stay hb hz q fun b hb => k b (List.mem_append_right _ hb))
end
mutual
theorem Ho.cold : ∀ {v : V} {x : Dt} {F : List Addr}, Ho K H v x F → (∀ b ∈ F, ¬ M b) → Co K M H v x
  | _, _, _, .n, _ => .n
  | _, _, _, .b x, _ => .b x
  | _, _, _, .i x, _ => .i x
  | _, _, _, .s x, _ => .s x
  | _, _, _, .t h q, k => .t h (HoL.cold q k)
  | _, _, _, .l h q, k => .l h (k _ List.mem_cons_self) (HoL.cold q fun b hb => k b (List.mem_cons_of_mem _ hb))
  | _, _, _, .z h q, k => .z h (HoL.cold q k)
theorem HoL.cold : ∀ {vs : List V} {xs : List Dt} {F : List Addr}, HoL K H vs xs F → (∀ b ∈ F, ¬ M b) → CoL K M H vs xs
  | _, _, _, .nil, _ => .nil
  | _, _, _, .cons h q, k => .cons (Ho.cold h fun b hb => k b (List.mem_append_left _ hb)) (HoL.cold q fun b hb => k b (List.mem_append_right _ hb))
end
mutual
theorem Ho.lists : ∀ {v : V} {x : Dt} {F : List Addr}, Ho K H v x F → ∀ b ∈ F, ∃ xs, H b = some (.lst xs)
  | _, _, _, .n, _, h => nomatch h
  | _, _, _, .b x, _, h => nomatch h
  | _, _, _, .i x, _, h => nomatch h
  | _, _, _, .s x, _, h => nomatch h
  | _, _, _, .t h q, b, hb => HoL.lists q b hb
  | _, _, _, .z h q, b, hb => HoL.lists q b hb
  | _, _, _, .l h q, b, hb => by
    rcases List.mem_cons.mp hb with e | hb
    · rw [e]; exact ⟨_, h⟩
    · exact HoL.lists q b hb
theorem HoL.lists : ∀ {vs : List V} {xs : List Dt} {F : List Addr}, HoL K H vs xs F → ∀ b ∈ F, ∃ xs, H b = some (.lst xs)
  | _, _, _, .nil, _, h => nomatch h
  | _, _, _, .cons h q, b, hb => by
    rcases List.mem_append.mp hb with hb | hb
    · exact Ho.lists h b hb
    · exact HoL.lists q b hb
end
mutual
/-- flat data is both -/
theorem Co.ho : ∀ {v : V} {x : Dt}, Co K M H v x → x.flat = true → Ho K H v x []
  | _, _, .n, _ => .n
  | _, _, .b x, _ => .b x
  | _, _, .i x, _ => .i x
  | _, _, .s x, _ => .s x
  | _, _, .t h q, k => .t h (CoL.ho q (by simpa [Dt.flat] using k))
  | _, _, .l h hn q, k => by simp [Dt.flat] at k
  | _, _, .z h q, k => .z h (CoL.ho q (by simpa [Dt.flat] using k))
  | _, _, .m h q, k => by simp [Dt.flat] at k
  | _, _, .o h c q, k => by simp [Dt.flat] at k
theorem CoL.ho : ∀ {vs : List V} {xs : List Dt}, CoL K M H vs xs → flatL xs = true → HoL K H vs xs []
  | _, _, .nil, _ => .nil
  | _, _, .cons h q, k => by
    simp only [flatL, Bool.and_eq_true] at k
    exact .cons (F := []) (F' := []) (Co.ho h k.1) (CoL.ho q k.2)
end
mutual
theorem Ho.flatE : ∀ {v : V} {x : Dt} {F : List Addr}, Ho K H v x F → x.flat = true → F = []
  | _, _, _, .n, _ => rfl
  | _, _, _, .b x, _ => rfl
  | _, _, _, .i x, _ => rfl
  | _, _, _, .s x, _ => rfl
  | _, _, _, .t h q, k => HoL.flatE q (by simpa [Dt.flat] using k)
  | _, _, _, .z h q, k => HoL.flatE q (by simpa [Dt.flat] using k)
  | _, _, _, .l h q, k => by simp [Dt.flat] at k
theorem HoL.flatE : ∀ {vs : List V} {xs : List Dt} {F : List Addr}, HoL K H vs xs F → flatL xs = true → F = []
  | _, _, _, .nil, _ => rfl
  | _, _, _, .cons h q, k => by
    simp only [flatL, Bool.and_eq_true] at k
    rw [Ho.flatE h k.1, HoL.flatE q k.2]; rfl
end
theorem Rp.lists {m : Md} {v : V} {x : Dt} {F : List Addr} (h : Rp K M H m v x F) : ∀ b ∈ F, ∃ xs, H b = some (.lst xs) := by
  cases m with
  | c => obtain ⟨_, rfl⟩ := h; exact fun _ z => nomatch z
  | t => obtain ⟨a, vs, xs, _, _, rfl, e, _⟩ := h; exact fun b hb => by rw [List.mem_singleton.mp hb]; exact ⟨_, e⟩
  | a => exact Ho.lists h
/-- given up: anybody may hold it -/
theorem Rp.cold {m : Md} {v : V} {x : Dt} {F : List Addr} (h : Rp K M H m v x F) (ht : Hotty M H) (k : ∀ b ∈ F, ¬ M' b) (q : ∀ b, M' b → M b) : Co K M' H v x := by
  cases m with
  | c => exact h.1.less q ht
  | t => obtain ⟨a, vs, xs, rfl, rfl, rfl, e, c⟩ := h; exact .l e (k a (by simp)) (c.less q ht)
  | a => exact Ho.cold h k
end
/-- the environment: each slot's data stand there; G: the owned lists of each slot -/
structure ER (K : PySem.W.Frag) (r : Ev) (σ : L2.St) (G : Nat → List Addr) (M : Addr → Prop) (H : Hp) : Prop where
  len : r.length = σ.length
  at_ : ∀ i x m, r[i]? = some (some (x, m)) → ∃ v, σ[i]? = some (some v) ∧ Rp K M H m v x (G i)
  emp : ∀ i, (∀ x m, r[i]? ≠ some (some (x, m))) → G i = []
  nd : ∀ i, (G i).Nodup
  dj : ∀ i j, i ≠ j → ∀ b, b ∈ G i → b ∉ G j
  sub : ∀ i b, b ∈ G i → M b
  hot : Hotty M H
/-- from one state to a later one: nothing but the environment's own lists has changed -/
structure Evo (H : Hp) (M : Addr → Prop) (G : Nat → List Addr) (H' : Hp) (M' : Addr → Prop) (G' : Nat → List Addr) (F : List Addr) : Prop where
  pres : ∀ b o, H b = some o → (∀ i, b ∉ G i) → H' b = some o
  dom : ∀ b, H' b = none → H b = none
  grow : ∀ b, M' b → M b ∨ H b = none
  keep : ∀ b, M b → (∀ i, b ∉ G i) → M' b
  env : ∀ i b, b ∈ G' i → (∃ j, b ∈ G j) ∨ H b = none
  res : ∀ b, b ∈ F → (∃ j, b ∈ G j) ∨ H b = none
section
variable {K : PySem.W.Frag} {M M' M2 : Addr → Prop} {H H' H2 : Hp} {G G' G2 : Nat → List Addr} {F F2 : List Addr} {r r' : Ev} {σ σ' : L2.St}
theorem Evo.refl : Evo H M G H M G [] := ⟨fun _ _ e _ => e, fun _ e => e, fun _ e => .inl e, fun _ e _ => e, fun i b h => .inl ⟨i, h⟩, fun _ h => nomatch h⟩
theorem Evo.trans (ht : Hotty M H) (a : Evo H M G H' M' G' F2) (c : Evo H' M' G' H2 M2 G2 F) : Evo H M G H2 M2 G2 F := by
  have out : ∀ b o, H b = some o → (∀ i, b ∉ G i) → ∀ i, b ∉ G' i := fun b o e hb i hi => by
    rcases a.env i b hi with ⟨j, q⟩ | q
    · exact hb j q
    · rw [e] at q; cases q
  have nn : ∀ b, H' b = none → H b = none := a.dom
  refine ⟨fun b o e hb => c.pres b o (a.pres b o e hb) (out b o e hb), fun b e => a.dom b (c.dom b e), fun b h => ?_, fun b h hb => ?_, fun i b h => ?_, fun b h => ?_⟩
  · rcases c.grow b h with h | h
    · exact a.grow b h
    · exact .inr (nn b h)
  · obtain ⟨xs, e⟩ := ht b h
    exact c.keep b (a.keep b h hb) (out b _ e hb)
  · rcases c.env i b h with ⟨j, q⟩ | q
    · exact a.env j b q
    · exact .inr (nn b q)
  · rcases c.res b h with ⟨j, q⟩ | q
    · exact a.env j b q
    · exact .inr (nn b q)
theorem ER.fm (e : ER K r σ G M H) (a : Evo H M G H' M' G' F) : Fm M H M' H' := ⟨fun b o q hn => a.pres b o q fun i hi => hn (e.sub i b hi), a.grow, e.hot⟩
/-- what is held besides stays as it was -/
theorem Rp.evo {m : Md} {v : V} {x : Dt} {F1 : List Addr} (h : Rp K M H m v x F1) (k : ∀ b ∈ F1, M b ∧ ∀ i, b ∉ G i) (e : ER K r σ G M H) (a : Evo H M G H' M' G' F) :
    Rp K M' H' m v x F1 ∧ (∀ b ∈ F1, M' b ∧ ∀ i, b ∉ G' i) ∧ ∀ b ∈ F1, b ∉ F := by
  have f := e.fm a
  have st : ∀ b ∈ F1, H' b = H b := fun b hb => by
    obtain ⟨xs, q⟩ := h.lists b hb
    rw [q]; exact a.pres b _ q (k b hb).2
  have nn : ∀ b ∈ F1, ∀ {j : Prop}, ((∃ j, b ∈ G j) ∨ H b = none) → j := fun b hb j z => by
    obtain ⟨xs, q⟩ := h.lists b hb
    rcases z with ⟨i, z⟩ | z
    · exact absurd z ((k b hb).2 i)
    · rw [q] at z; cases z
  refine ⟨?_, fun b hb => ⟨a.keep b (k b hb).1 (k b hb).2, fun i hi => nn b hb (a.env i b hi)⟩, fun b hb hf => nn b hb (a.res b hf)⟩
  cases m with
  | c => exact ⟨h.1.fm f, h.2⟩
  | t =>
    obtain ⟨a, vs, xs, rfl, rfl, rfl, q, c⟩ := h
    exact ⟨a, vs, xs, rfl, rfl, rfl, (st a (by simp)).trans q, c.fm f⟩
  | a => exact Ho.stay (fun b xs z => f.rd z (e.hot.nrd z)) (fun b o u z => f.keep b _ z fun q => by obtain ⟨xs, y⟩ := e.hot b q; rw [z] at y; cases y) h st
/-- one slot is given another value -/
theorem ER.put {i : Nat} {m : Md} {v : V} {x : Dt} (e : ER K r σ G M H) (h : Rp K M H m v x F) (nd : F.Nodup) (k : ∀ b ∈ F, M b ∧ ∀ j, b ∉ G j) (hi : i < σ.length) :
    ER K (r.set i (some (x, m))) (σ.set i (some v)) (fun j => if j = i then F else G j) M H := by
  refine ⟨by simp [e.len], fun j y n hj => ?_, fun j hj => ?_, fun j => ?_, fun j l hne b hb => ?_, fun j b hb => ?_, e.hot⟩
  · by_cases q : j = i
    · subst q
      rw [List.getElem?_set_self (by rw [e.len]; exact hi)] at hj
      cases hj
      exact ⟨v, List.getElem?_set_self hi, by simpa using h⟩
    · rw [List.getElem?_set_ne (Ne.symm q)] at hj
      obtain ⟨w, h1, h2⟩ := e.at_ j y n hj
      exact ⟨w, by rw [List.getElem?_set_ne (Ne.symm q)]; exact h1, by simpa [q] using h2⟩
  · by_cases q : j = i
    · subst q
      exact absurd (List.getElem?_set_self (by rw [e.len]; exact hi)) (hj x m)
    · rw [if_neg q]
      exact e.emp j fun y n z => hj y n (by rw [List.getElem?_set_ne (Ne.symm q)]; exact z)
  · by_cases q : j = i
    · simpa [q] using nd
    · simpa [q] using e.nd j
  · by_cases q : j = i
    · subst q
      have : l ≠ j := Ne.symm hne
      simp only [if_true, if_neg this] at hb ⊢
      exact (k b hb).2 l
    · simp only [if_neg q] at hb
      by_cases q' : l = i
      · simp only [if_pos q']
        exact fun z => (k b z).2 j hb
      · simp only [if_neg q']
        exact e.dj j l hne b hb
  · by_cases q : j = i
    · simp only [if_pos q] at hb; exact (k b hb).1
    · simp only [if_neg q] at hb; exact e.sub j b hb
/-- a slot is forgotten -/
theorem ER.drop (e : ER K r σ G M H) (i : Nat) : ER K (r.set i none) σ (fun j => if j = i then [] else G j) M H := by
  refine ⟨by simp [e.len], fun j y n hj => ?_, fun j hj => ?_, fun j => ?_, fun j l hne b hb => ?_, fun j b hb => ?_, e.hot⟩
  · by_cases q : j = i
    · subst q
      by_cases hl : j < r.length
      · rw [List.getElem?_set_self hl] at hj; cases hj
      · rw [List.getElem?_eq_none (by simpa using hl)] at hj; cases hj
    · rw [List.getElem?_set_ne (Ne.symm q)] at hj
      obtain ⟨w, h1, h2⟩ := e.at_ j y n hj
      exact ⟨w, h1, by simpa [q] using h2⟩
  · by_cases q : j = i
    · rw [if_pos q]
    · rw [if_neg q]
      exact e.emp j fun y n z => hj y n (by rw [List.getElem?_set_ne (Ne.symm q)]; exact z)
  · by_cases q : j = i
    · simp [q]
    · simpa [q] using e.nd j
  · by_cases q : j = i
    · simp [q] at hb
    · simp only [if_neg q] at hb
      by_cases q' : l = i
      · simp [q']
      · simp only [if_neg q']
        exact e.dj j l hne b hb
  · by_cases q : j = i
    · simp [q] at hb
    · simp only [if_neg q] at hb; exact e.sub j b hb
/-- the environment behind a change that is not its own -/
theorem ER.evoF (e : ER K r σ G M H) (hk : ∀ b o, H b = some o → (¬ M b ∨ ∃ i, b ∈ G i) → H' b = some o) (gr : ∀ b, M' b → M b ∨ H b = none) (kp : ∀ i b, b ∈ G i → M' b) (ht : Hotty M' H') : ER K r σ G M' H' := by
  have f : Fm M H M' H' := ⟨fun b o q hn => hk b o q (.inl hn), gr, e.hot⟩
  refine ⟨e.len, fun i x m h => ?_, e.emp, e.nd, e.dj, kp, ht⟩
  obtain ⟨v, h1, h2⟩ := e.at_ i x m h
  refine ⟨v, h1, ?_⟩
  have st : ∀ b ∈ G i, H' b = H b := fun b hb => by
    obtain ⟨xs, q⟩ := h2.lists b hb
    rw [q]; exact hk b _ q (.inr ⟨i, hb⟩)
  cases m with
  | c => exact ⟨h2.1.fm f, h2.2⟩
  | t =>
    obtain ⟨a, vs, xs, rfl, rfl, eG, q, c⟩ := h2
    exact ⟨a, vs, xs, rfl, rfl, eG, (st a (by rw [eG]; simp)).trans q, c.fm f⟩
  | a => exact Ho.stay (fun b xs z => f.rd z (e.hot.nrd z)) (fun b o u z => f.keep b _ z fun q => by obtain ⟨xs, y⟩ := e.hot b q; rw [z] at y; cases y) h2 st
end
end Y
/-! Y, part B: readings of expressions, operands, calls of primitives. -/
namespace Y
open PySem L2

/-- an expression's end -/
structure PX (K : PySem.W.Frag) (r' : Ev) (σ : L2.St) (H : Hp) (M : Addr → Prop) (G : Nat → List Addr) (v : V) (x : Dt) (m : Md) (H' : Hp) (M' : Addr → Prop) (G' : Nat → List Addr) (F : List Addr) : Prop where
  er : ER K r' σ G' M' H'
  ev : Evo H M G H' M' G' F
  rp : Rp K M' H' m v x F
  nd : F.Nodup
  hot : ∀ b ∈ F, M' b ∧ ∀ i, b ∉ G' i
/-- the fields of an exception -/
def XdOk (K : PySem.W.Frag) (M : Addr → Prop) (H : Hp) (d : Option Addr) (fs : List (Str × Dt)) : Prop :=
  match fs with
  | [] => d = none
  | _ => ∃ dx vs, d = some dx ∧ H dx = some (.xd ((fs.map (·.1)).zip vs)) ∧ vs.length = fs.length ∧ CoL K M H vs (fs.map (·.2))
/-- an exception's end -/
structure XX (K : PySem.W.Frag) (r' : Ev) (σ : L2.St) (H : Hp) (M : Addr → Prop) (G : Nat → List Addr) (fs : List (Str × Dt)) (d : Option Addr) (H' : Hp) (M' : Addr → Prop) (G' : Nat → List Addr) : Prop where
  er : ER K r' σ G' M' H'
  ev : Evo H M G H' M' G' []
  xd : XdOk K M' H' d fs

def tI (K : PySem.W.Frag) (cl : Str → Addr) (W : WX) (f : Ev → Ou Vl) : TE := fun σ H Q => ∃ r M G, ER K r σ G M H ∧
  match f r with
  | .ok (x, m) r' => ∀ v H' M' G' F, PX K r' σ H M G v x m H' M' G' F → Q v H'
  | .ex c fs r' => ∀ d H' M' G', XX K r' σ H M G fs d H' M' G' → W (.ref (cl c)) d σ H'
  | .no => False
/-- an expression | a test -/
def JE (X : Cx) (cl : Str → Addr) (W : WX) (e : Expr) (f : Ev → Ou Vl) : Prop := Takes X W → PE X e (tI X.K cl W f)
def tIB (K : PySem.W.Frag) (cl : Str → Addr) (W : WX) (f : Ev → Ou Bool) : TT := fun σ H Q => ∃ r M G, ER K r σ G M H ∧
  match f r with
  | .ok b r' => ∀ H' M' G', ER K r' σ G' M' H' → Evo H M G H' M' G' [] → Q b H'
  | .ex c fs r' => ∀ d H' M' G', XX K r' σ H M G fs d H' M' G' → W (.ref (cl c)) d σ H'
  | .no => False
def JT (X : Cx) (cl : Str → Addr) (W : WX) (e : Expr) (f : Ev → Ou Bool) : Prop := Takes X W → PT X e (tIB X.K cl W f)

theorem _root_.L2.PE.yimp {X : Cx} {e : Expr} {t t' : TE} (h : PE X e t) (k : ∀ σ H Q, t' σ H Q → t σ H Q) : PE X e t' := ⟨fun pins s σ H Q I q => h.run pins s σ H Q I (k σ H Q q)⟩
theorem _root_.L2.PT.yimp {X : Cx} {e : Expr} {t t' : TT} (h : PT X e t) (k : ∀ σ H Q, t' σ H Q → t σ H Q) : PT X e t' := ⟨fun pins s σ H Q I q => h.run pins s σ H Q I (k σ H Q q)⟩

/-- an operand: an expression, whose value is given up, or a variable, read where all operands are there -/
inductive Am where
  | e (f : Ev → Ou Vl) | v (i : Nat)
inductive Ag where
  | d (x : Dt) | v (i : Nat)
def evA : List Am → Ev → Ou (List Ag)
  | [], r => .ok [] r
  | .e f :: as, r => match f r with
    | .ok (x, _) r1 => match evA as r1 with
      | .ok ys r2 => .ok (.d x :: ys) r2
      | .ex c fs r2 => .ex c fs r2
      | .no => .no
    | .ex c fs r1 => .ex c fs r1
    | .no => .no
  | .v i :: as, r => match r[i]? with
    | some (some _) => match evA as r with
      | .ok ys r2 => .ok (.v i :: ys) r2
      | .ex c fs r2 => .ex c fs r2
      | .no => .no
    | _ => .no
/-- the operand's own judgement and reading -/
def JO (X : Cx) (cl : Str → Addr) (W : WX) (e : Expr) : Am → Prop
  | .e f => JE X cl W e f
  | .v i => PE X e (tVar i)
def tO (K : PySem.W.Frag) (cl : Str → Addr) (W : WX) : Am → TE
  | .e f => tI K cl W f
  | .v i => tVar i
theorem JO.pe {X : Cx} {cl : Str → Addr} {W : WX} {e : Expr} {a : Am} (h : JO X cl W e a) (tk : Takes X W) : PE X e (tO X.K cl W a) := by
  cases a with
  | e f => exact h tk
  | v i => exact h
def tOs (K : PySem.W.Frag) (cl : Str → Addr) (W : WX) : List Am → L2.St → Hp → (List V → Hp → Prop) → Prop
  | [], _, H, k => k [] H
  | a :: as, σ, H, k => tO K cl W a σ H fun x H1 => tOs K cl W as σ H1 fun vs H2 => k (x :: vs) H2
inductive AgL (K : PySem.W.Frag) (M : Addr → Prop) (H : Hp) (σ : L2.St) : List V → List Ag → Prop
  | nil : AgL K M H σ [] []
  | d {v : V} {vs : List V} {x : Dt} {as : List Ag} : Co K M H v x → AgL K M H σ vs as → AgL K M H σ (v :: vs) (.d x :: as)
  | v {v : V} {vs : List V} {i : Nat} {as : List Ag} : σ[i]? = some (some v) → AgL K M H σ vs as → AgL K M H σ (v :: vs) (.v i :: as)
theorem AgL.fm {K : PySem.W.Frag} {M M' : Addr → Prop} {H H' : Hp} {σ : L2.St} (f : Fm M H M' H') : ∀ {vs : List V} {as : List Ag}, AgL K M H σ vs as → AgL K M' H' σ vs as
  | _, _, .nil => .nil
  | _, _, .d h q => .d (h.fm f) (q.fm f)
  | _, _, .v h q => .v h (q.fm f)
section
variable {K : PySem.W.Frag} {cl : Str → Addr} {W : WX} {M M' : Addr → Prop} {H H' : Hp} {G G' : Nat → List Addr} {r r' : Ev} {σ : L2.St}
/-- less may change: what a value held is given up -/
theorem ER.lessM (e : ER K r σ G M H) (q : ∀ b, M' b → M b) (k : ∀ i b, b ∈ G i → M' b) : ER K r σ G M' H :=
  e.evoF (fun b o h _ => h) (fun b z => .inl (q b z)) k fun b z => e.hot b (q b z)
/-- an expression's value given up -/
theorem PX.giveUp (ht : Hotty M H) {v : V} {x : Dt} {m : Md} {F : List Addr} (p : PX K r' σ H M G v x m H' M' G' F) :
    ∃ M2, ER K r' σ G' M2 H' ∧ Evo H M G H' M2 G' [] ∧ Co K M2 H' v x := by
  refine ⟨fun b => M' b ∧ b ∉ F, p.er.lessM (fun b z => z.1) (fun i b hb => ⟨p.er.sub i b hb, fun hf => (p.hot b hf).2 i hb⟩), ⟨p.ev.pres, p.ev.dom, fun b z => p.ev.grow b z.1, fun b h hb => ⟨p.ev.keep b h hb, fun hf => ?_⟩, p.ev.env, fun _ h => nomatch h⟩, ?_⟩
  · rcases p.ev.res b hf with ⟨j, z⟩ | z
    · exact hb j z
    · obtain ⟨xs, q⟩ := ht b h
      rw [q] at z; cases z
  · exact p.rp.cold p.er.hot (fun b hb z => z.2 hb) fun b z => z.1
/-- operands one by one -/
theorem tOs_ok : ∀ (as : List Am) {r : Ev} {M : Addr → Prop} {G : Nat → List Addr} {H : Hp} {k : List V → Hp → Prop}, ER K r σ G M H →
    (match evA as r with
      | .ok ys r' => ∀ vs H' M' G', ER K r' σ G' M' H' → Evo H M G H' M' G' [] → AgL K M' H' σ vs ys → k vs H'
      | .ex c fs r' => ∀ d H' M' G', XX K r' σ H M G fs d H' M' G' → W (.ref (cl c)) d σ H'
      | .no => False) → tOs K cl W as σ H k
  | [], r, M, G, H, k, e, h => h [] H M G e .refl .nil
  | .e f :: as, r, M, G, H, k, e, h => by
    show tI K cl W f σ H _
    refine ⟨r, M, G, e, ?_⟩
    simp only [evA] at h
    cases hf : f r with
    | ok xm r1 =>
      obtain ⟨x, m⟩ := xm
      rw [hf] at h
      intro v H1 M1 G1 F p
      obtain ⟨M2, e2, v2, c2⟩ := p.giveUp e.hot
      refine tOs_ok as e2 ?_
      simp only at h
      cases ha : evA as r1 with
      | ok ys r2 =>
        rw [ha] at h
        intro vs H3 M3 G3 e3 v3 a3
        exact h (v :: vs) H3 M3 G3 e3 (v2.trans e.hot v3) (.d (c2.fm (e2.fm v3)) a3)
      | ex c fs r2 =>
        rw [ha] at h
        intro d H3 M3 G3 q
        exact h d H3 M3 G3 ⟨q.er, v2.trans e.hot q.ev, q.xd⟩
      | no =>
        rw [ha] at h
        exact h
    | ex c fs r1 => rw [hf] at h; exact h
    | no => rw [hf] at h; exact h
  | .v i :: as, r, M, G, H, k, e, h => by
    simp only [evA] at h
    cases hr : r[i]? with
    | none => rw [hr] at h; exact h.elim
    | some o =>
      cases o with
      | none => rw [hr] at h; exact h.elim
      | some xm =>
        obtain ⟨x, m⟩ := xm
        rw [hr] at h
        obtain ⟨v, hv, _⟩ := e.at_ i x m hr
        refine ⟨v, hv, tOs_ok as e ?_⟩
        simp only at h
        cases ha : evA as r with
        | ok ys r2 =>
          rw [ha] at h
          intro vs H3 M3 G3 e3 v3 a3
          exact h (v :: vs) H3 M3 G3 e3 v3 (.v hv a3)
        | ex c fs r2 => rw [ha] at h; exact h
        | no => rw [ha] at h; exact h

/-! ### the operands' data -/
def look (r : Ev) : List Ag → Option (List Dt)
  | [] => some []
  | .d x :: ys => (look r ys).map (x :: ·)
  | .v i :: ys => match r[i]? with
    | some (some (x, _)) => (look r ys).map (x :: ·)
    | _ => none
/-- the variables among the operands are given up -/
def frz : List Ag → Ev → Ev
  | [], r => r
  | .d _ :: ys, r => frz ys r
  | .v i :: ys, r => match r[i]? with
    | some (some (x, _)) => frz ys (r.set i (some (x, .c)))
    | _ => frz ys r
/-- the owned lists of the variables among the operands -/
def owns (G : Nat → List Addr) : List Ag → List Addr
  | [] => []
  | .d _ :: ys => owns G ys
  | .v i :: ys => G i ++ owns G ys
theorem mem_owns {b : Addr} : ∀ {ys : List Ag}, b ∈ owns G ys → ∃ i, b ∈ G i
  | .d _ :: ys, h => mem_owns (ys := ys) h
  | .v i :: ys, h => by
    rcases List.mem_append.mp h with h | h
    · exact ⟨i, h⟩
    · exact mem_owns h
/-- where nothing of the operands' variables may change, all operands are cold -/
theorem look_cold (e : ER K r σ G M H) (k : ∀ b, M' b → M b) : ∀ {ys : List Ag} {vs : List V} {xs : List Dt}, (∀ b ∈ owns G ys, ¬ M' b) → AgL K M H σ vs ys → look r ys = some xs → CoL K M' H vs xs
  | [], _, _, _, .nil, h => by cases h; exact .nil
  | .d x :: ys, _, _, q, .d h a, hl => by
    simp only [look, Option.map_eq_some_iff] at hl
    obtain ⟨xs, h1, rfl⟩ := hl
    exact .cons (h.less k e.hot) (look_cold (ys := ys) e k q a h1)
  | .v i :: ys, _, _, q, .v h a, hl => by
    simp only [look] at hl
    split at hl
    · rename_i x m hr
      simp only [Option.map_eq_some_iff] at hl
      obtain ⟨xs, h1, rfl⟩ := hl
      obtain ⟨v, hv, rp⟩ := e.at_ i x m hr
      rw [h] at hv; cases hv
      exact .cons (rp.cold e.hot (fun b hb => q b (List.mem_append_left _ hb)) k) (look_cold (ys := ys) e k (fun b hb => q b (List.mem_append_right _ hb)) a h1)
    · cases hl
/-- a variable given up -/
theorem ER.give {i : Nat} {x : Dt} {m : Md} (e : ER K r σ G M H) (hr : r[i]? = some (some (x, m))) :
    ER K (r.set i (some (x, .c))) σ (fun j => if j = i then [] else G j) (fun b => M b ∧ b ∉ G i) H := by
  obtain ⟨v, hv, rp⟩ := e.at_ i x m hr
  have hi : i < σ.length := (List.getElem?_eq_some_iff.mp hv).1
  have e2 : ER K (r.set i none) σ (fun j => if j = i then [] else G j) (fun b => M b ∧ b ∉ G i) H := (e.drop i).lessM (fun b z => z.1) fun j b hb => by
    by_cases q : j = i
    · simp [q] at hb
    · simp only [if_neg q] at hb
      exact ⟨e.sub j b hb, e.dj j i q b hb⟩
  have e3 := e2.put (i := i) (m := .c) (v := v) (x := x) (F := []) ⟨rp.cold e.hot (fun b hb z => z.2 hb) fun b z => z.1, rfl⟩ List.nodup_nil (fun b hb => nomatch hb) hi
  have s1 : σ.set i (some v) = σ := by
    apply List.ext_getElem?
    intro j
    by_cases q : i = j
    · subst q; rw [List.getElem?_set_self hi, hv]
    · rw [List.getElem?_set_ne q]
  rw [s1, List.set_set] at e3
  have g1 : (fun j => if j = i then ([] : List Addr) else if j = i then [] else G j) = fun j => if j = i then [] else G j := by
    funext j; by_cases q : j = i <;> simp [q]
  rw [g1] at e3
  exact e3
theorem ER.frz : ∀ (ys : List Ag) {r : Ev} {G : Nat → List Addr} {M : Addr → Prop}, ER K r σ G M H → ∃ G', ER K (Y.frz ys r) σ G' (fun b => M b ∧ b ∉ owns G ys) H ∧ ∀ i b, b ∈ G' i → b ∈ G i
  | [], r, G, M, e => ⟨G, e.lessM (fun b z => z.1) (fun i b hb => ⟨e.sub i b hb, by simp [owns]⟩), fun _ _ h => h⟩
  | .d x :: ys, r, G, M, e => ER.frz ys e
  | .v i :: ys, r, G, M, e => by
    simp only [Y.frz]
    cases hr : r[i]? with
    | none =>
      obtain ⟨G', e', s⟩ := ER.frz ys e
      have z : G i = [] := e.emp i fun x m h => by rw [hr] at h; cases h
      exact ⟨G', by simpa [owns, z] using e', s⟩
    | some o =>
      cases o with
      | none =>
        obtain ⟨G', e', s⟩ := ER.frz ys e
        have z : G i = [] := e.emp i fun x m h => by rw [hr] at h; cases h
        exact ⟨G', by simpa [owns, z] using e', s⟩
      | some xm =>
        obtain ⟨x, m⟩ := xm
        obtain ⟨G', e', s⟩ := ER.frz ys (e.give hr)
        have hs : ∀ j b, b ∈ G' j → b ∈ G j := fun j b hb => by
          have := s j b hb
          by_cases q : j = i
          · simp [q] at this
          · simpa [q] using this
        have ow : ∀ (zs : List Ag) b, b ∈ owns (fun j => if j = i then [] else G j) zs → b ∈ owns G zs := by
          intro zs
          induction zs with
          | nil => intro b h; exact h
          | cons z zs ih =>
            intro b h
            cases z with
            | d x => exact ih b h
            | v j =>
              rcases List.mem_append.mp h with h | h
              · by_cases q : j = i
                · simp [q] at h
                · exact List.mem_append_left _ (by simpa [q] using h)
              · exact List.mem_append_right _ (ih b h)
        have ow2 : ∀ (zs : List Ag) b, b ∈ owns G zs → b ∉ G i → b ∈ owns (fun j => if j = i then [] else G j) zs := by
          intro zs
          induction zs with
          | nil => intro b h _; exact h
          | cons z zs ih =>
            intro b h hn
            cases z with
            | d x => exact ih b h hn
            | v j =>
              rcases List.mem_append.mp h with h | h
              · by_cases q : j = i
                · rw [q] at h; exact absurd h hn
                · exact List.mem_append_left _ (by simpa [q] using h)
              · exact List.mem_append_right _ (ih b h hn)
        refine ⟨G', e'.lessM (M' := fun b => M b ∧ b ∉ owns G (.v i :: ys)) (fun b z => ?_) (fun j b hb => ?_), hs⟩
        · have z2 := z.2
          simp only [owns, List.mem_append, not_or] at z2
          exact ⟨⟨z.1, z2.1⟩, fun q => z2.2 (ow ys b q)⟩
        · have := e'.sub j b hb
          simp only [owns, List.mem_append, not_or]
          exact ⟨this.1.1, this.1.2, fun q => this.2 (ow2 ys b q this.1.2)⟩

/-! ### primitives -/
/-- what a primitive leaves: all stays, its answer is new or of the operands' -/
structure Mk (K : PySem.W.Frag) (H : Hp) (M : Addr → Prop) (v : V) (x : Dt) (m : Md) (H' : Hp) (F : List Addr) : Prop where
  same : ∀ b o, H b = some o → H' b = some o
  new : ∀ b ∈ F, H b = none
  nd : F.Nodup
  rp : Rp K (fun b => M b ∨ b ∈ F) H' m v x F
/-- a rule over values tells what f does on data -/
def Pr (K : PySem.W.Frag) (rr : List V → Hp → VK → Prop) (f : List Dt → Option Vl) : Prop :=
  ∀ (M : Addr → Prop) (H : Hp) (vs : List V) (xs : List Dt) (x : Dt) (m : Md) (Q : VK), Hotty M H → CoL K M H vs xs → f xs = some (x, m) → (∀ v H' F, Mk K H M v x m H' F → Q v H') → rr vs H Q
def mP (f : List Dt → Option Vl) (as : List Am) : Ev → Ou Vl := fun r => match evA as r with
  | .ok ys r1 => match look r1 ys with
    | some xs => match f xs with
      | some (x, m) => .ok (x, m) (if x.flat then r1 else frz ys r1)
      | none => .no
    | none => .no
  | .ex c fs r1 => .ex c fs r1
  | .no => .no
theorem Mk.env {v : V} {x : Dt} {m : Md} {F : List Addr} {M1 : Addr → Prop} (e : ER K r σ G M H) (p : Mk K H M1 v x m H' F) :
    ER K r σ G (fun b => M b ∨ b ∈ F) H' ∧ Evo H M G H' (fun b => M b ∨ b ∈ F) G F ∧ ∀ b ∈ F, ¬ M b := by
  have nM : ∀ b ∈ F, ¬ M b := fun b hb z => by
    obtain ⟨xs, q⟩ := e.hot b z
    rw [p.new b hb] at q; cases q
  have ht' : Hotty (fun b => M b ∨ b ∈ F) H' := fun b z => by
    rcases z with z | z
    · obtain ⟨xs, q⟩ := e.hot b z
      exact ⟨xs, p.same b _ q⟩
    · exact p.rp.lists b z
  have gr : ∀ b, (M b ∨ b ∈ F) → M b ∨ H b = none := fun b z => by
    rcases z with z | z
    · exact .inl z
    · exact .inr (p.new b z)
  have dm : ∀ b, H' b = none → H b = none := fun b h => by
    cases q : H b with
    | none => rfl
    | some o =>
      rw [p.same b o q] at h
      cases h
  exact ⟨e.evoF (fun b o h _ => p.same b o h) gr (fun i b hb => .inl (e.sub i b hb)) ht', ⟨fun b o h _ => p.same b o h, dm, gr, fun b h _ => .inl h, fun i b h => .inl ⟨i, h⟩, fun b h => .inr (p.new b h)⟩, nM⟩
theorem Mk.px {v : V} {x : Dt} {m : Md} {F : List Addr} {G0 : Nat → List Addr} {M0 M1 : Addr → Prop} {H0 : Hp} (e : ER K r σ G M H) (ev : Evo H0 M0 G0 H M G []) (ht : Hotty M0 H0)
    (p : Mk K H M1 v x m H' F) (hx : x.flat = true) : PX K r σ H0 M0 G0 v x m H' (fun b => M b ∨ b ∈ F) G F := by
  obtain ⟨e', v2, nM⟩ := p.env e
  refine ⟨e', ev.trans ht v2, ?_, p.nd, fun b hb => ⟨.inr hb, fun i hi => nM b hb (e.sub i b hi)⟩⟩
  -- flat: no lists within
  cases m with
  | c =>
    have hh := (p.rp.1).ho hx
    exact ⟨(hh.cold (M := fun b => M b ∨ b ∈ F) fun b hb => nomatch hb), p.rp.2⟩
  | t =>
    obtain ⟨a, vs, xs, rfl, rfl, rfl, q, c⟩ := p.rp
    simp [Dt.flat] at hx
  | a => exact p.rp
/-- .. where the answer may share the operands' lists -/
theorem Mk.px2 {v : V} {x : Dt} {m : Md} {F : List Addr} {G0 : Nat → List Addr} {M0 : Addr → Prop} {H0 : Hp} (e : ER K r σ G M H) (ev : Evo H0 M0 G0 H M G []) (ht : Hotty M0 H0)
    (p : Mk K H M v x m H' F) : PX K r σ H0 M0 G0 v x m H' (fun b => M b ∨ b ∈ F) G F := by
  obtain ⟨e', v2, nM⟩ := p.env e
  exact ⟨e', ev.trans ht v2, p.rp, p.nd, fun b hb => ⟨.inr hb, fun i hi => nM b hb (e.sub i b hi)⟩⟩
/-- THE STEP for primitives: operands, then the rule over values -/
theorem mP_ok {rr : List V → Hp → VK → Prop} {f : List Dt → Option Vl} (hp : Pr K rr f) {as : List Am} {Q : VK} (h : tI K cl W (mP f as) σ H Q) : tOs K cl W as σ H fun vs H1 => rr vs H1 Q := by
  obtain ⟨r, M, G, e, h⟩ := h
  refine tOs_ok as e ?_
  simp only [mP] at h
  cases ha : evA as r with
  | no => rw [ha] at h; exact h
  | ex c fs r1 => rw [ha] at h; exact h
  | ok ys r1 =>
    rw [ha] at h
    simp only at h
    intro vs H1 M1 G1 e1 v1 a1
    cases hl : look r1 ys with
    | none => rw [hl] at h; exact h.elim
    | some xs =>
      rw [hl] at h
      simp only at h
      cases hf : f xs with
      | none => rw [hf] at h; exact h.elim
      | some xm =>
        obtain ⟨x, m⟩ := xm
        rw [hf] at h
        simp only at h
        have cc : CoL K (fun b => M1 b ∧ b ∉ owns G1 ys) H1 vs xs := look_cold e1 (fun b z => z.1) (fun b hb z => z.2 hb) a1 hl
        have ht1 : Hotty (fun b => M1 b ∧ b ∉ owns G1 ys) H1 := fun b z => e1.hot b z.1
        by_cases hx : x.flat = true
        · rw [if_pos hx] at h
          exact hp _ H1 vs xs x m Q ht1 cc hf fun v H2 F p => h v H2 _ _ F (p.px e1 v1 e.hot hx)
        · rw [if_neg hx] at h
          obtain ⟨G2, e2, s2⟩ := e1.frz ys
          have v2 : Evo H1 M1 G1 H1 (fun b => M1 b ∧ b ∉ owns G1 ys) G2 [] := ⟨fun _ _ h _ => h, fun _ h => h, fun b z => .inl z.1, fun b h hb => ⟨h, fun z => let ⟨i, q⟩ := mem_owns z; hb i q⟩, fun i b hb => .inl ⟨i, s2 i b hb⟩, fun _ h => nomatch h⟩
          exact hp _ H1 vs xs x m Q ht1 cc hf fun v H2 F p => h v H2 _ _ F (p.px2 e2 (v1.trans e.hot v2) e.hot)
end
end Y
/-! Y, part C: names, constants, tests, displays, operators, conditional expressions. -/
namespace Y
open PySem L2
section
variable {X : Cx} {cl : Str → Addr} {W : WX} {K : PySem.W.Frag} {σ : L2.St} {H : Hp}

/-! ### a name, a constant -/
def mV (i : Nat) : Ev → Ou Vl := fun r => match r[i]? with
  | some (some (x, _)) => .ok (x, .c) (if x.flat then r else r.set i (some (x, .c)))
  | _ => .no
theorem tI_var {i : Nat} {Q : VK} (h : tI K cl W (mV i) σ H Q) : tVar i σ H Q := by
  obtain ⟨r, M, G, e, h⟩ := h
  simp only [mV] at h
  cases hr : r[i]? with
  | none => rw [hr] at h; exact h.elim
  | some o =>
    cases o with
    | none => rw [hr] at h; exact h.elim
    | some xm =>
      obtain ⟨x, m⟩ := xm
      rw [hr] at h
      simp only at h
      obtain ⟨v, hv, rp⟩ := e.at_ i x m hr
      refine ⟨v, hv, ?_⟩
      by_cases hx : x.flat = true
      · rw [if_pos hx] at h
        refine h v H M G [] ⟨e, .refl, ⟨?_, rfl⟩, List.nodup_nil, fun _ z => nomatch z⟩
        cases m with
        | c => exact rp.1
        | t =>
          obtain ⟨a, vs, xs, rfl, rfl, _⟩ := rp
          simp [Dt.flat] at hx
        | a => exact Ho.cold rp (by rw [Ho.flatE rp hx]; exact fun _ z => nomatch z)
      · rw [if_neg hx] at h
        have e2 := e.give hr
        obtain ⟨v', hv', rp'⟩ := e2.at_ i x .c (List.getElem?_set_self (List.getElem?_eq_some_iff.mp hr).1)
        rw [hv] at hv'; cases hv'
        refine h v H _ _ [] ⟨e2, ⟨fun _ _ h _ => h, fun _ h => h, fun b z => .inl z.1, fun b h hb => ⟨h, hb i⟩, fun j b hb => .inl ⟨j, ?_⟩, fun _ h => nomatch h⟩, ⟨rp'.1, rfl⟩, List.nodup_nil, fun _ z => nomatch z⟩
        by_cases q : j = i
        · simp [q] at hb
        · simpa [q] using hb
theorem je_v {e : Expr} (i : Nat) (h : PE X e (tVar i)) : JE X cl W e (mV i) := fun _ => h.yimp fun _ _ _ q => tI_var q
theorem jo_v {e : Expr} (i : Nat) (h : PE X e (tVar i)) : JO X cl W e (.v i) := h
theorem jo_e {e : Expr} {f : Ev → Ou Vl} (h : JE X cl W e f) : JO X cl W e (.e f) := h
def mK (x : Dt) : Ev → Ou Vl := fun r => .ok (x, .c) r
theorem je_k {e : Expr} {v : V} {x : Dt} (h : PE X e (tC v)) (c : ∀ M H, Co X.K M H v x) : JE X cl W e (mK x) := fun _ => h.yimp fun σ H Q ⟨r, M, G, e, q⟩ =>
  q v H M G [] ⟨e, .refl, ⟨c M H, rfl⟩, List.nodup_nil, fun _ z => nomatch z⟩
theorem je_int {i j pos} : JE X cl W (.Constant (.int i) j pos) (mK (.i i)) := je_k pe_int fun _ _ => .i i
theorem je_bl {i j pos} : JE X cl W (.Constant (.bool i) j pos) (mK (.b i)) := je_k pe_bl fun _ _ => .b i
theorem je_non {j pos} : JE X cl W (.Constant .none j pos) (mK .n) := je_k pe_non fun _ _ => .n
theorem je_str {x j pos} : JE X cl W (.Constant (.str x) j pos) (mK (.s x)) := je_k pe_str fun _ _ => .s x

/-! ### primitives with one, two operands -/
def ap1 (r : V → Hp → VK → Prop) : List V → Hp → VK → Prop
  | [x], H, Q => r x H Q
  | _, _, _ => False
def ap2 (r : R2) : List V → Hp → VK → Prop
  | [x, y], H, Q => r x y H Q
  | _, _, _ => False
theorem je_bin {a b : Expr} {op : Operator} {r : R2} {A B : Am} {pos : Pos} {f : List Dt → Option Vl} (ho : OpR X (binaryOp op) r) (hp : Pr X.K (ap2 r) f) (ha : JO X cl W a A) (hb : JO X cl W b B) :
    JE X cl W (.BinOp a op b pos) (mP f [A, B]) := fun tk => (pe_op ho (ha.pe tk) (hb.pe tk)).yimp fun _ _ _ q => mP_ok hp q
theorem je_un {a : Expr} {op : UnaryOp} {r : V → Hp → VK → Prop} {A : Am} {pos : Pos} {f : List Dt → Option Vl} (ho : UnR X (unaryOp op) r) (hp : Pr X.K (ap1 r) f) (ha : JO X cl W a A) :
    JE X cl W (.UnaryOp op a pos) (mP f [A]) := fun tk => (pe_un ho (ha.pe tk)).yimp fun _ _ _ q => mP_ok hp q
theorem je_cmp {a b : Expr} {op : CmpOp} {r : R2} {A B : Am} {pos : Pos} {f : List Dt → Option Vl} (ho : OpR X (compareOp op) r) (hm : behindInMarks op b = false) (hp : Pr X.K (ap2 r) f) (ha : JO X cl W a A) (hb : JO X cl W b B) :
    JE X cl W (.Compare a [op] [b] pos) (mP f [A, B]) := fun tk => (pe_cmpR ho (ha.pe tk) (hb.pe tk) hm).yimp fun _ _ _ q => mP_ok hp q
theorem je_ix {a b : Expr} {r : R2} {A B : Am} {pos : Pos} {f : List Dt → Option Vl} (ho : IxR X r) (hp : Pr X.K (ap2 r) f) (ha : JO X cl W a A) (hb : JO X cl W b B) (hs : PlainIx b) :
    JE X cl W (.Subscript a b pos) (mP f [A, B]) := fun tk => (pe_ix ho (ha.pe tk) (hb.pe tk) hs).yimp fun _ _ _ q => mP_ok hp q

/-! ### operands as an argument list -/
inductive JA (X : Cx) (cl : Str → Addr) (W : WX) : List Expr → List Am → Prop
  | nil : JA X cl W [] []
  | cons {e : Expr} {es : List Expr} {a : Am} {as : List Am} : JO X cl W e a → starEach (e :: es) X.env = (false, eval e X.env) :: starEach es X.env → JA X cl W es as → JA X cl W (e :: es) (a :: as)
def tAs (K : PySem.W.Frag) (cl : Str → Addr) (W : WX) (as : List Am) : TA := tOs K cl W as
theorem JA.pa {es : List Expr} {as : List Am} (h : JA X cl W es as) (tk : Takes X W) : PA X es (tAs X.K cl W as) := by
  induction h with
  | nil => exact pa_nil
  | cons h1 h2 _ ih => exact pa_cons (h1.pe tk) ih h2
theorem ja_c {e : Expr} {es : List Expr} {a : Am} {as : List Am} (h : JO X cl W e a) (q : JA X cl W es as) (hs : starEach (e :: es) X.env = (false, eval e X.env) :: starEach es X.env := by rfl) : JA X cl W (e :: es) (a :: as) := .cons h hs q
theorem ja_n : JA X cl W [] [] := .nil
/-- a built-in's call by its name -/
theorem je_callB {id : String} {x : Str} {e : Expr} {es : List Expr} {r : List V → Hp → VK → Prop} {as : List Am} {p pos : Pos} {f : List Dt → Option Vl} (hc : CallR X (.builtin id) r) (hp : Pr X.K r f) (hg : Gl X x) (hm : X.mg x = none) (hv : bootBuiltins x = some (.builtin id))
    (ha : JA X cl W (e :: es) as) (hn : x ≠ "__name__" := by decide) (hdb : (x == ("__debug__" : Str)) = false := by decide) (he : starEach (e :: es) X.env = (false, eval e X.env) :: starEach es X.env := by rfl) (hpl : (backTo pos (starEach es X.env)).any (·.1) = false := by rfl) :
    JE X cl W (.Call (.Name x p) (e :: es) [] pos) (mP f as) := fun tk => (pe_callB hc hg hm hv (ha.pa tk) hn hdb he hpl).yimp fun _ _ _ q => mP_ok hp q
theorem je_callT {id : String} {x : Str} {e : Expr} {es : List Expr} {r : List V → Hp → VK → Prop} {as : List Am} {p pos : Pos} {f : List Dt → Option Vl} (hc : CallR X (.type id) r) (hp : Pr X.K r f) (hg : Gl X x) (hm : X.mg x = none) (hv : bootBuiltins x = some (.type id))
    (ha : JA X cl W (e :: es) as) (hn : x ≠ "__name__" := by decide) (hdb : (x == ("__debug__" : Str)) = false := by decide) (he : starEach (e :: es) X.env = (false, eval e X.env) :: starEach es X.env := by rfl) (hpl : (backTo pos (starEach es X.env)).any (·.1) = false := by rfl) :
    JE X cl W (.Call (.Name x p) (e :: es) [] pos) (mP f as) := fun tk => (pe_callTy hc hg hm hv (ha.pa tk) hn hdb he hpl).yimp fun _ _ _ q => mP_ok hp q
/-- tuples and lists written out -/
def rDisp (k : List V → HO) : List V → Hp → VK → Prop := fun vs H Q => vs.length ≤ sizeLine ∧ ∀ p, H p = none → Q (.ref p) (upd H p (k vs))
def LIM : Nat := 1000000
def fTup : List Dt → Option Vl := fun xs => if xs.length ≤ LIM then some (.t xs, .c) else none
def fLst : List Dt → Option Vl := fun xs => if xs.length ≤ LIM then some (.l xs, .t) else none
theorem lim_size {n : Nat} (h : n ≤ LIM) : n ≤ sizeLine := Nat.le_trans h (by decide)
theorem CoL.len {M : Addr → Prop} : ∀ {vs : List V} {xs : List Dt}, CoL K M H vs xs → vs.length = xs.length
  | _, _, .nil => rfl
  | _, _, .cons _ q => congrArg (· + 1) (CoL.len q)
theorem fm_new {M : Addr → Prop} (ht : Hotty M H) {p : Addr} {o : HO} (hp : H p = none) : Fm M H (fun b => M b ∨ b ∈ [p]) (upd H p o) :=
  ⟨fun b o e _ => by rw [upd_ne (ne_of_none e hp)]; exact e, fun b z => by
    exact z.elim .inl fun z => .inr (by rw [List.mem_singleton.mp z]; exact hp), ht⟩
theorem fm_new0 {M : Addr → Prop} (ht : Hotty M H) {p : Addr} {o : HO} (hp : H p = none) : Fm M H (fun b => M b ∨ b ∈ ([] : List Addr)) (upd H p o) :=
  ⟨fun b o e _ => by rw [upd_ne (ne_of_none e hp)]; exact e, fun b z => by
    exact z.elim .inl fun z => (nomatch z), ht⟩
theorem same_new {p : Addr} {o : HO} (hp : H p = none) : ∀ b u, H b = some u → upd H p o b = some u := fun b u e => by rw [upd_ne (ne_of_none e hp)]; exact e
/-- a new tuple | a new list of these -/
theorem mk_tup {M : Addr → Prop} (ht : Hotty M H) {p : Addr} {vs : List V} {xs : List Dt} (hp : H p = none) (c : CoL K M H vs xs) : Mk K H M (.ref p) (.t xs) .c (upd H p (.tup vs)) [] :=
  ⟨same_new hp, fun _ z => (nomatch z), List.nodup_nil, .t (.inl (.inl upd_same)) (c.fm (fm_new0 ht hp)), rfl⟩
theorem mk_lst {M : Addr → Prop} (ht : Hotty M H) {p : Addr} {vs : List V} {xs : List Dt} (hp : H p = none) (c : CoL K M H vs xs) : Mk K H M (.ref p) (.l xs) .t (upd H p (.lst vs)) [p] :=
  ⟨same_new hp, fun b z => by rw [List.mem_singleton.mp z]; exact hp, by simp, p, vs, xs, rfl, rfl, rfl, upd_same, c.fm (fm_new ht hp)⟩
theorem pr_tup : Pr K (rDisp .tup) fTup := fun M H vs xs x m Q ht c hf k => by
  simp only [fTup] at hf
  split at hf
  · rename_i h
    cases hf
    exact ⟨by rw [c.len]; exact lim_size h, fun p hp => k _ _ _ (mk_tup ht hp c)⟩
  · cases hf
theorem pr_lst : Pr K (rDisp .lst) fLst := fun M H vs xs x m Q ht c hf k => by
  simp only [fLst] at hf
  split at hf
  · rename_i h
    cases hf
    exact ⟨by rw [c.len]; exact lim_size h, fun p hp => k _ _ _ (mk_lst ht hp c)⟩
  · cases hf
theorem je_tup {es : List Expr} {as : List Am} {x1} {pos : Pos} (h : JA X cl W es as) : JE X cl W (.Tuple es x1 pos) (mP fTup as) := fun tk => (pe_tup (h.pa tk)).yimp fun _ _ _ q => mP_ok pr_tup q
theorem je_lst {es : List Expr} {as : List Am} {pos : Pos} (h : JA X cl W es as) : JE X cl W (.List es pos) (mP fLst as) := fun tk => (pe_lst (h.pa tk)).yimp fun _ _ _ q => mP_ok pr_lst q

/-! ### tests -/
def mTe (f : Ev → Ou Vl) : Ev → Ou Bool := fun r => match f r with
  | .ok (.b k, _) r' => .ok k r'
  | .ok _ _ => .no
  | .ex c fs r' => .ex c fs r'
  | .no => .no
theorem tI_te {f : Ev → Ou Vl} {Q : Bool → Hp → Prop} (h : tIB K cl W (mTe f) σ H Q) : tI K cl W f σ H fun v H' => ∃ k, v = .bl k ∧ Q k H' := by
  obtain ⟨r, M, G, e, h⟩ := h
  refine ⟨r, M, G, e, ?_⟩
  simp only [mTe] at h
  cases hf : f r with
  | no => rw [hf] at h; exact h
  | ex c fs r' => rw [hf] at h; exact h
  | ok xm r' =>
    obtain ⟨x, m⟩ := xm
    rw [hf] at h
    intro v H' M' G' F p
    cases x with
    | b k =>
      simp only at h
      obtain ⟨M2, e2, v2, c2⟩ := p.giveUp e.hot
      cases c2
      exact ⟨k, rfl, h H' M2 G' e2 v2⟩
    | _ => exact h.elim
theorem jt_val {e : Expr} {f : Ev → Ou Vl} (h : JE X cl W e f) (he : ∀ whole, isTrue e X.env whole = (do let v ← whole; standAt e.pos; holding [v] (truthy v)) := by intro _; rfl) : JT X cl W e (mTe f) := fun tk =>
  (pt_val (h tk) he).yimp fun _ _ _ q => tI_te q
theorem jt_cmp {a b : Expr} {op : CmpOp} {r : R2} {A B : Am} {pos : Pos} {f : List Dt → Option Vl} (ho : OpR X (compareOp op) r) (hm : behindInMarks op b = false) (hp : Pr X.K (ap2 r) f) (ha : JO X cl W a A) (hb : JO X cl W b B) :
    JT X cl W (.Compare a [op] [b] pos) (mTe (mP f [A, B])) := fun tk => (pt_cmpR ho (ha.pe tk) (hb.pe tk) hm).yimp fun _ _ _ q => mP_ok hp (tI_te q)
def mNot (f : Ev → Ou Bool) : Ev → Ou Bool := fun r => match f r with
  | .ok k r' => .ok (!k) r'
  | .ex c fs r' => .ex c fs r'
  | .no => .no
theorem jt_not {a : Expr} {f : Ev → Ou Bool} {pos : Pos} (h : JT X cl W a f) : JT X cl W (.UnaryOp .Not a pos) (mNot f) := fun tk => (pt_not (h tk)).yimp fun σ H Q ⟨r, M, G, e, q⟩ => by
  refine ⟨r, M, G, e, ?_⟩
  simp only [mNot] at q
  cases hf : f r with
  | no => rw [hf] at q; exact q
  | ex c fs r' => rw [hf] at q; exact q
  | ok k r' => rw [hf] at q; exact q
/-- one behind the other -/
def mAnd (f g : Ev → Ou Bool) : Ev → Ou Bool := fun r => match f r with
  | .ok true r' => g r'
  | .ok false r' => .ok false r'
  | .ex c fs r' => .ex c fs r'
  | .no => .no
def mOr (f g : Ev → Ou Bool) : Ev → Ou Bool := fun r => match f r with
  | .ok true r' => .ok true r'
  | .ok false r' => g r'
  | .ex c fs r' => .ex c fs r'
  | .no => .no
def JW (X : Cx) (cl : Str → Addr) (W : WX) (e : Expr) (f : Ev → Ou Bool) : Prop := Takes X W → PW X e (tIB X.K cl W f)
theorem _root_.L2.PW.yimp {X : Cx} {e : Expr} {t t' : TT} (h : PW X e t) (k : ∀ σ H Q, t' σ H Q → t σ H Q) : PW X e t' := ⟨fun wh pins s σ H Q I q => h.run wh pins s σ H Q I (k σ H Q q)⟩
theorem tIB_later {M M0 : Addr → Prop} {G G0 : Nat → List Addr} {H0 : Hp} {r : Ev} {g : Ev → Ou Bool} {Q : Bool → Hp → Prop} (ht : Hotty M0 H0) (e : ER K r σ G M H) (v : Evo H0 M0 G0 H M G [])
    (q : match g r with
      | .ok b r' => ∀ H' M' G', ER K r' σ G' M' H' → Evo H0 M0 G0 H' M' G' [] → Q b H'
      | .ex c fs r' => ∀ d H' M' G', XX K r' σ H0 M0 G0 fs d H' M' G' → W (.ref (cl c)) d σ H'
      | .no => False) : tIB K cl W g σ H Q := by
  refine ⟨r, M, G, e, ?_⟩
  cases hg : g r with
  | no => rw [hg] at q; exact q
  | ex c fs r' =>
    rw [hg] at q
    exact fun d H' M' G' p => q d H' M' G' ⟨p.er, v.trans ht p.ev, p.xd⟩
  | ok k r' =>
    rw [hg] at q
    exact fun H' M' G' e' v' => q H' M' G' e' (v.trans ht v')
theorem tIB_and {f g : Ev → Ou Bool} {Q : Bool → Hp → Prop} (h : tIB K cl W (mAnd f g) σ H Q) : tAnd (tIB K cl W f) (tIB K cl W g) σ H Q := by
  obtain ⟨r, M, G, e, q⟩ := h
  refine ⟨r, M, G, e, ?_⟩
  simp only [mAnd] at q
  cases hf : f r with
  | no => rw [hf] at q; exact q
  | ex c fs r' => rw [hf] at q; exact q
  | ok k r' =>
    rw [hf] at q
    intro H' M' G' e' v'
    cases k with
    | true => rw [if_pos rfl]; exact tIB_later e.hot e' v' q
    | false => rw [if_neg Bool.false_ne_true]; exact q H' M' G' e' v'
theorem tIB_or {f g : Ev → Ou Bool} {Q : Bool → Hp → Prop} (h : tIB K cl W (mOr f g) σ H Q) : tOr (tIB K cl W f) (tIB K cl W g) σ H Q := by
  obtain ⟨r, M, G, e, q⟩ := h
  refine ⟨r, M, G, e, ?_⟩
  simp only [mOr] at q
  cases hf : f r with
  | no => rw [hf] at q; exact q
  | ex c fs r' => rw [hf] at q; exact q
  | ok k r' =>
    rw [hf] at q
    intro H' M' G' e' v'
    cases k with
    | true => rw [if_pos rfl]; exact q H' M' G' e' v'
    | false => rw [if_neg Bool.false_ne_true]; exact tIB_later e.hot e' v' q
theorem jw_and1 {a : Expr} {f : Ev → Ou Bool} {pos : Pos} (h : JT X cl W a f) : JW X cl W (.BoolOp .And [a] pos) f := fun tk => pw_and1 (h tk)
theorem jw_or1 {a : Expr} {f : Ev → Ou Bool} {pos : Pos} (h : JT X cl W a f) : JW X cl W (.BoolOp .Or [a] pos) f := fun tk => pw_or1 (h tk)
theorem jw_and {a b : Expr} {rest : List Expr} {f g : Ev → Ou Bool} {pos : Pos} (h : JT X cl W a f) (q : JW X cl W (.BoolOp .And (b :: rest) pos) g) : JW X cl W (.BoolOp .And (a :: b :: rest) pos) (mAnd f g) := fun tk =>
  (pw_and (h tk) (q tk)).yimp fun _ _ _ z => tIB_and z
theorem jw_or {a b : Expr} {rest : List Expr} {f g : Ev → Ou Bool} {pos : Pos} (h : JT X cl W a f) (q : JW X cl W (.BoolOp .Or (b :: rest) pos) g) : JW X cl W (.BoolOp .Or (a :: b :: rest) pos) (mOr f g) := fun tk =>
  (pw_or (h tk) (q tk)).yimp fun _ _ _ z => tIB_or z
theorem jt_w {e : Expr} {f : Ev → Ou Bool} (h : JW X cl W e f) : JT X cl W e f := fun tk => (h tk).pt

/-! ### from a later state -/
theorem tI_later {M M0 : Addr → Prop} {G G0 : Nat → List Addr} {H0 : Hp} {r : Ev} {g : Ev → Ou Vl} {Q : VK} (ht : Hotty M0 H0) (e : ER K r σ G M H) (v : Evo H0 M0 G0 H M G [])
    (q : match g r with
      | .ok (x, m) r' => ∀ v H' M' G' F, PX K r' σ H0 M0 G0 v x m H' M' G' F → Q v H'
      | .ex c fs r' => ∀ d H' M' G', XX K r' σ H0 M0 G0 fs d H' M' G' → W (.ref (cl c)) d σ H'
      | .no => False) : tI K cl W g σ H Q := by
  refine ⟨r, M, G, e, ?_⟩
  cases hg : g r with
  | no => rw [hg] at q; exact q
  | ex c fs r' =>
    rw [hg] at q
    exact fun d H' M' G' p => q d H' M' G' ⟨p.er, v.trans ht p.ev, p.xd⟩
  | ok xm r' =>
    obtain ⟨x, m⟩ := xm
    rw [hg] at q
    exact fun w H' M' G' F p => q w H' M' G' F ⟨p.er, v.trans ht p.ev, p.rp, p.nd, p.hot⟩
def mIf (c : Ev → Ou Bool) (f g : Ev → Ou Vl) : Ev → Ou Vl := fun r => match c r with
  | .ok true r' => f r'
  | .ok false r' => g r'
  | .ex c fs r' => .ex c fs r'
  | .no => .no
theorem je_if {c a b : Expr} {fc : Ev → Ou Bool} {f g : Ev → Ou Vl} {pos : Pos} (hc : JT X cl W c fc) (ha : JE X cl W a f) (hb : JE X cl W b g) : JE X cl W (.IfExp c a b pos) (mIf fc f g) := fun tk =>
  (pe_ifExp (hc tk) (ha tk) (hb tk)).yimp fun σ H Q ⟨r, M, G, e, q⟩ => by
    refine ⟨r, M, G, e, ?_⟩
    simp only [mIf] at q
    cases hf : fc r with
    | no => rw [hf] at q; exact q
    | ex c fs r' => rw [hf] at q; exact q
    | ok k r' =>
      rw [hf] at q
      intro H' M' G' e' v'
      cases k with
      | true => rw [if_pos rfl]; exact tI_later e.hot e' v' q
      | false => rw [if_neg Bool.false_ne_true]; exact tI_later e.hot e' v' q
/-- truths as values -/
def mBo (b : Ev → Ou Bool) : Ev → Ou Vl := fun r => match b r with
  | .ok k r' => .ok (.b k, .c) r'
  | .ex c fs r' => .ex c fs r'
  | .no => .no
def mAndV (f g : Ev → Ou Vl) : Ev → Ou Vl := fun r => match f r with
  | .ok (.b true, _) r' => g r'
  | .ok (.b false, _) r' => .ok (.b false, .c) r'
  | .ok _ _ => .no
  | .ex c fs r' => .ex c fs r'
  | .no => .no
def mOrV (f g : Ev → Ou Vl) : Ev → Ou Vl := fun r => match f r with
  | .ok (.b true, _) r' => .ok (.b true, .c) r'
  | .ok (.b false, _) r' => g r'
  | .ok _ _ => .no
  | .ex c fs r' => .ex c fs r'
  | .no => .no
def mNotV (f : Ev → Ou Vl) : Ev → Ou Vl := fun r => match f r with
  | .ok (.b k, _) r' => .ok (.b (!k), .c) r'
  | .ok _ _ => .no
  | .ex c fs r' => .ex c fs r'
  | .no => .no
theorem px_bl {r : Ev} {H0 : Hp} {M M0 : Addr → Prop} {G G0 : Nat → List Addr} (k : Bool) (e : ER K r σ G M H) (v : Evo H0 M0 G0 H M G []) : PX K r σ H0 M0 G0 (.bl k) (.b k) .c H M G [] :=
  ⟨e, v, ⟨.b k, rfl⟩, List.nodup_nil, fun _ z => nomatch z⟩
theorem je_and {a b : Expr} {rest : List Expr} {f g : Ev → Ou Vl} {pos : Pos} (ha : JE X cl W a f) (hb : JE X cl W (.BoolOp .And (b :: rest) pos) g) : JE X cl W (.BoolOp .And (a :: b :: rest) pos) (mAndV f g) := fun tk =>
  (pe_and (ha tk) (hb tk)).yimp fun σ H Q ⟨r, M, G, e, q⟩ => by
    refine ⟨r, M, G, e, ?_⟩
    simp only [mAndV] at q
    cases hf : f r with
    | no => rw [hf] at q; exact q
    | ex c fs r' => rw [hf] at q; exact q
    | ok xm r' =>
      obtain ⟨x, m⟩ := xm
      rw [hf] at q
      intro v H' M' G' F p
      cases x with
      | b k =>
        obtain ⟨M2, e2, v2, c2⟩ := p.giveUp e.hot
        cases c2
        refine ⟨k, rfl, ?_⟩
        cases k with
        | true => rw [if_pos rfl]; exact tI_later e.hot e2 v2 q
        | false => rw [if_neg Bool.false_ne_true]; exact q _ _ _ _ _ (px_bl false e2 v2)
      | _ => exact q.elim
theorem je_or {a b : Expr} {rest : List Expr} {f g : Ev → Ou Vl} {pos : Pos} (ha : JE X cl W a f) (hb : JE X cl W (.BoolOp .Or (b :: rest) pos) g) : JE X cl W (.BoolOp .Or (a :: b :: rest) pos) (mOrV f g) := fun tk =>
  (pe_or (ha tk) (hb tk)).yimp fun σ H Q ⟨r, M, G, e, q⟩ => by
    refine ⟨r, M, G, e, ?_⟩
    simp only [mOrV] at q
    cases hf : f r with
    | no => rw [hf] at q; exact q
    | ex c fs r' => rw [hf] at q; exact q
    | ok xm r' =>
      obtain ⟨x, m⟩ := xm
      rw [hf] at q
      intro v H' M' G' F p
      cases x with
      | b k =>
        obtain ⟨M2, e2, v2, c2⟩ := p.giveUp e.hot
        cases c2
        refine ⟨k, rfl, ?_⟩
        cases k with
        | true => rw [if_pos rfl]; exact q _ _ _ _ _ (px_bl true e2 v2)
        | false => rw [if_neg Bool.false_ne_true]; exact tI_later e.hot e2 v2 q
      | _ => exact q.elim
theorem je_one {a : Expr} {op : BoolOp} {f : Ev → Ou Vl} {pos : Pos} (ha : JE X cl W a f) : JE X cl W (.BoolOp op [a] pos) f := fun tk => pe_one (ha tk)
theorem je_not {a : Expr} {f : Ev → Ou Vl} {pos : Pos} (ha : JE X cl W a f) : JE X cl W (.UnaryOp .Not a pos) (mNotV f) := fun tk =>
  (pe_not (ha tk)).yimp fun σ H Q ⟨r, M, G, e, q⟩ => by
    refine ⟨r, M, G, e, ?_⟩
    simp only [mNotV] at q
    cases hf : f r with
    | no => rw [hf] at q; exact q
    | ex c fs r' => rw [hf] at q; exact q
    | ok xm r' =>
      obtain ⟨x, m⟩ := xm
      rw [hf] at q
      intro v H' M' G' F p
      cases x with
      | b k =>
        obtain ⟨M2, e2, v2, c2⟩ := p.giveUp e.hot
        cases c2
        exact ⟨k, rfl, q _ _ _ _ _ (px_bl _ e2 v2)⟩
      | _ => exact q.elim
end
end Y
/-! Y, part I: what a def promises where it is known that no repr is under way (repr asks for that). -/
namespace Y
open PySem L2 PyProof.Rows
structure Room (k : Nat) (A : Around) : Prop extends L2.Room k A where
  gd : A.guards = some []
theorem Room.mono {j k : Nat} {A : Around} (r : Room k A) (h : j ≤ k) : Room j A := ⟨r.toRoom.mono h, r.gd⟩
theorem Room.deeper {k : Nat} {A : Around} (r : Room (k + 1) A) (env : Env) : Room k (A.deeper env) := ⟨r.toRoom.deeper env, r.gd⟩
structure FnOk (P : Program) (w : World) (K : PySem.W.Frag) (mg : Str → Option Value) (base : Heap) (CX : CXT) (k : Nat) (f : Addr) (fd : FuncData) (ps : List Str) (sp : Sp) : Prop where
  len : ∀ as Hs Qs Es, sp as Hs Qs Es → as.length = ps.length
  run : ∀ (B : Around) (out : List Env) (st : Shared) (Hs : Hp) (ar : Args) (vals : List Value) (as : List V) (Qs : VK) (Es : XK), Room k B → Env0 P w K mg base B out st Hs → BindsTo st fd ar (ps.zip vals) → Vals as vals → sp as Hs Qs Es →
    codeAny (model P w) B (.call (.ref f) ar) (CR CX out P w Hs st Qs Es) st
section
variable {X : Cx} {CX : CXT} {k : Nat} {f : Addr} {fd : FuncData} {ps : List Str} {sp : Sp} {E : L2.St → XK} {x : Str} {p pos : Pos} {e : Expr} {es : List Expr} {t : TA}
/-- how a call's end is met by who called -/
theorem meets {pins : List (Addr × Obj)} {σ : L2.St} {H : Hp} {s s' : Shared} {Q : VK} {E : XK} {fl : Result} (I : Inv X pins σ H s) (hx : PassesAt CX X σ E) (h : CR CX X.stack X.prog X.w H s Q E fl s') :
    match fl with
    | .ok (.ret u) => EP X pins σ Q u s'
    | .ok _ => False
    | .error v => X.xe v s' := by
  match fl with
  | .error v => exact hx pins H s v s' I h
  | .ok (.ret u) => exact I.after h
  | .ok .next => exact (h : False)
  | .ok .brk => exact (h : False)
  | .ok .cont => exact (h : False)
theorem run_any {pins : List (Addr × Obj)} {σ : L2.St} {H : Hp} {s : Shared} {Q : VK} {E : XK} {ar : Args} {vals : List Value} {as : List V} (F : FnOk X.prog X.w X.K X.mg X.base CX k f fd ps sp) (hr : Room k X.A) (hx : PassesAt CX X σ E) (I : Inv X pins σ H s) (hb : BindsTo s fd ar (ps.zip vals)) (rv : Vals as vals) (h : sp as H Q E) :
    wpAny (model X.prog X.w) X.A (PySem.call (.ref f) ar.pos ar.kw) (EP X pins σ Q) X.xe s := by
  refine wpAny_call (codeAny_mono (F.run X.A X.stack s H ar vals as Q E hr I.env0 hb rv h) fun fl s' hq => ?_)
  have := meets I hx hq
  revert this
  match fl with
  | .error v => exact id
  | .ok (.ret u) => exact id
  | .ok .next => exact False.elim
  | .ok .brk => exact False.elim
  | .ok .cont => exact False.elim
theorem run_fnS {pins : List (Addr × Obj)} {σ : L2.St} {H : Hp} {s : Shared} {Q : VK} {us : List Value} {vs : List V} (F : FnOk X.prog X.w X.K X.mg X.base CX k f fd ps sp) (hr : Room k X.A) (hb : Binds X.K fd ps []) (hx : PassesAt CX X σ (E σ)) (I : Inv X pins σ H s) (rv : Vals vs us) (h : sp vs H Q (E σ)) :
    wpAny (model X.prog X.w) X.A (PySem.call (.ref f) us) (EP X pins σ Q) X.xe s := by
  have b := hb s us I.kIn (by rw [List.append_nil, ← rv.length]; exact F.len _ _ _ _ h)
  rw [List.append_nil] at b
  exact run_any (ar := ⟨us, []⟩) F hr hx I b rv h
theorem pe_callS (F : FnOk X.prog X.w X.K X.mg X.base CX k f fd ps sp) (hr : Room k X.A) (hg : Gl X x) (hm : X.mg x = some (.ref f)) (hk : PySem.W.keepIn X.K (.ref f) = true) (hb : Binds X.K fd ps []) (hx : ∀ σ, PassesAt CX X σ (E σ)) (ha : PA X (e :: es) t)
    (hdb : (x == ("__debug__" : Str)) = false := by decide) (he : starEach (e :: es) X.env = (false, eval e X.env) :: starEach es X.env := by rfl) (hpl : (backTo pos (starEach es X.env)).any (·.1) = false := by rfl) : PE X (.Call (.Name x p) (e :: es) [] pos) (tCallS sp E t) :=
  ⟨fun pins s σ H Q I h => wpAny_Call_Name_kw (ld_glob I hg hm (PySem.W.callWith_K (h₀ := X.base) I.ok.mod.kin hk (thn (ha.run pos pins s σ H _ I h) fun us s1 ⟨vs, H1, I1, r, q⟩ => ⟨I1.kIn, run_fnS F hr hb (hx σ) I1 r q⟩) he hpl) hdb)⟩
end
section
variable {P : Program} {w : World} {K : PySem.W.Frag} {mg : Str → Option Value} {base : Heap}
/-- a def by its body -/
theorem fn_by {CX : CXT} {k : Nat} {f : Addr} {name qual : Str} {params : Arguments} {body : List Stmt} {scope : Scope} {dV kV doc pm cdv ct oc : Value} {an od : Option Addr} {osl : Array (Option Value)} {N ps : List Str} {sp : Sp}
    (lk : K.lookup f = some ⟨oc, od, .func (PySem.W.fnOf name qual params body scope dV kV doc pm an cdv ct), osl⟩) (hcd : PySem.W.codeIn K cdv qual = true) (S : FnScope N ps scope) (len : ∀ as Hs Qs Es, sp as Hs Qs Es → as.length = ps.length)
    (go : ∀ (B : Around) (out : List Env) (st : Shared) (Hs : Hp) (as : List V) (Qs : VK) (Es : XK), Room k (B.deeper (envOfC qual scope st.heap.objs.size f cdv)) → sp as Hs Qs Es →
      ∃ t, PSs (cxOf CX P w K mg base N qual scope f cdv B out st Hs Es) body t ∧ t { nx := fun _ H' => Qs .non H', rt := Qs } (start N as) Hs) :
    FnOk P w K mg base CX (k + 1) f (PySem.W.fnOf name qual params body scope dV kV doc pm an cdv ct) ps sp where
  len := len
  run := by
    intro B out st Hs ar vals as Qs Es rm ev bd rv hsp
    have hl := len _ _ _ _ hsp
    have KX : K.In st.heap := ev.mod.kin.keeps fun b o q => (ev.bs b o q).1
    have lim : st.heap.NoLimit := ev.mod.nolimit.keeps fun b o q => (ev.bs b o q).1
    have kinds : ∀ y ∈ ps.zip vals, scope.names.lookup y.1 = some .local ∨ (scope.names.lookup y.1 = some .cell ∧ ((cellsFrom (st.heap.objs.size + 1) scope.names []).lookup y.1).isSome = true) := by
      rintro ⟨n, v⟩ hy
      exact (S.par n (List.of_mem_zip hy).1).elim .inl fun q => .inr ⟨q, PySem.W.cellsFrom_some _ _ _ (.inl q)⟩
    refine codeAny_call_function rm.depth (KX _ _ lk) rfl S.co S.gen rfl (PySem.W.codeRec_of KX hcd) (bd _ _ _ _ (wpAny_newFunctionEnv_cells S.kind kinds fun env he s1 ic => ?_))
    subst he
    refine ⟨lim.keeps ic.toInCall.keep, codeAny_func ?_⟩
    obtain ⟨t, ht, hq⟩ := go B out st Hs as Qs Es (rm.deeper _) hsp
    have I := inv_start (CX := CX) (E := Es) S rm.hd ev hl rv ic
    have fin : ∀ {σ' : L2.St} {H' : Hp} {s' : Shared} {v : V} {u : Value}, Inv (cxOf CX P w K mg base N qual scope f cdv B out st Hs Es) [] σ' H' s' → RelV v u → Qs v H' → CE out P w Hs st Qs u s' := by
      intro σ' H' s' v u J rv q
      exact ⟨v, H', J.os, J.bare, J.base, J.hok, rv, q⟩
    refine wpAny_mono (ht.run [] s1 (start N as) Hs _ I hq) (fun fl s' hs => ?_) fun _ _ z => z
    match fl, hs with
    | .ret u, ⟨v, _, _, J, r, q⟩ => exact fin J r q
    | .next, ⟨_, _, J, q⟩ => exact fin (v := V.non) (u := Value.none) J rfl q
    | .brk, ⟨_, _, _, q⟩ => exact q.elim
    | .cont, ⟨_, _, _, q⟩ => exact q.elim
theorem fn_okX {x qual : Str} {st : Stmt} {f : Addr} {fd : FuncData} {N ps : List Str} {k : Nat} {sp : Sp} (F : Fun K x qual st f fd) (S : FnScope N ps (defScope st)) (len : ∀ as Hs Qs Es, sp as Hs Qs Es → as.length = ps.length)
    (go : ∀ (cdv : Value) (B : Around) (out : List Env) (s : Shared) (Hs : Hp) (as : List V) (Qs : VK) (Es : XK), Room k (B.deeper (envOfC qual (defScope st) s.heap.objs.size f cdv)) → sp as Hs Qs Es →
      ∃ t, PSs (cxOf (L2.CX P w) P w K mg base N qual (defScope st) f cdv B out s Hs Es) (defBody st) t ∧ t { nx := fun _ H' => Qs .non H', rt := Qs } (start N as) Hs) : FnOk P w K mg base (L2.CX P w) (k + 1) f fd ps sp := by
  obtain ⟨_, _, _, _, _, _, cdv, _, _, rfl, lk, hcd⟩ := F.ex
  exact fn_by lk hcd S len fun B out s Hs as Qs Es rm hsp => go cdv B out s Hs as Qs Es rm hsp
end
/-- the head's own call -/
theorem head_call {P : Program} {w : World} {K : PySem.W.Frag} {mg mb : Str → Option Value} {CX : CXT} {k : Nat} {fa a : Addr} {fd : FuncData} {x : Str} {sp : Sp} {s₁ : Shared} {vs : List Value} {ns : List Int} (KX : K.In s₁.heap) (hns : s₁.heap.Ns mainGlobals mg) (hb : s₁.heap.Ns builtinsNs mb)
    (hbb : ∀ x : Str, x ≠ "__name__" → mb x = bootBuiltins x) (hlim : s₁.heap.NoLimit) (hg : s₁.gens = #[]) (ha : s₁.heap.get? a = some { cls := .type "list", data := .seq vs.toArray }) (hi : IntsAre vs ns) (hl : ns.length ≤ sizeLine) (hr : Room k callerA)
    (F : ∀ base : Heap, K.In base → base.Ns mainGlobals mg → FnOk P w K mg base CX k fa fd [x] sp) (hbind : ∀ (s : Shared) (u : Value), BindsTo s fd ⟨[u], []⟩ [(x, u)]) (hsp : ∀ H : Hp, Only H → SqL K H a (ns.map V.int) → sp [.ref a] H (fun v _ => v = .bl true) fun _ _ _ => False) (hCX : ∀ H e s', CX [] H s₁ (fun _ _ _ => False) e s' → False) :
    codeAny (model P w) callerA (.call (.ref fa) ⟨[.ref a], []⟩) (fun r s' => r = .ok (.ret (.bool true)) ∧ OldK s₁.heap s'.heap ∧ s'.os = s₁.os ∧ AllBare s'.gens) s₁ := by
  have rv := vals_ints hi
  have lenV := hi.length
  have core : ∀ H : Hp, Only H → SqL K H a (ns.map V.int) → HOk P w H s₁.heap → (∀ b, H b ≠ none → b = a) → (H a ≠ none → K.lookup a = none) → codeAny (model P w) callerA (.call (.ref fa) ⟨[.ref a], []⟩) (fun r s' => r = .ok (.ret (.bool true)) ∧ OldK s₁.heap s'.heap ∧ s'.os = s₁.os ∧ AllBare s'.gens) s₁ := by
    intro H hO hS hok hA hK
    have notA : ∀ {b : Addr} {o : Obj} {es : Array DictEntry} {ep : Nat}, s₁.heap.get? b = some o → o.data = .dict es ep → H b = none := by
      intro b o es ep h1 h2
      rcases hq : H b with _ | u
      · rfl
      · have hba : b = a := hA b (by simp [hq])
        rw [hba, ha] at h1
        cases h1
        cases (h2 : Data.seq vs.toArray _ = Data.dict es ep)
    have nsK : ∀ {b : Addr} {m : Str → Option Value}, s₁.heap.Ns b m → (hidT s₁.heap H).Ns b m := by
      rintro b m ⟨o, es, ep, h1, h2, h3⟩
      exact ⟨o, es, ep, hidT_get h1 (notA h1 h2), h2, h3⟩
    have hKb : K.In (hidT s₁.heap H) := by
      intro b o h1
      refine hidT_get (KX b o h1) ?_
      rcases hq : H b with _ | u
      · rfl
      · have hba : b = a := hA b (by simp [hq])
        rw [hba, hK (by rw [← hba]; simp [hq])] at h1
        cases h1
    have hM : Mod K mg (hidT s₁.heap H) := ⟨hKb, nsK hns, ⟨mb, nsK hb, hbb⟩, hlim.elim fun mc z => ⟨mc, nsK z.1, z.2⟩⟩
    have ev : Env0 P w K mg (hidT s₁.heap H) callerA [] s₁ H := ⟨rfl, hM, fun b o q => of_hidT q, Nat.le_of_eq (hidT_size _ _), trivial, fun b z => (nomatch (show b ∈ ([] : List Addr) from z)), hok, .of_eq hg⟩
    refine codeAny_mono ((F _ hKb (nsK hns)).run callerA [] s₁ H ⟨[.ref a], []⟩ [.ref a] [.ref a] _ _ hr ev (hbind s₁ (.ref a)) (.cons rfl .nil) (hsp H hO hS)) fun r s' h => ?_
    match r, h with
    | .error v, h => exact (hCX H v s' h).elim
    | .ok .next, h => exact (h : False).elim
    | .ok .brk, h => exact (h : False).elim
    | .ok .cont, h => exact (h : False).elim
    | .ok (.ret u), ⟨v, H', os, bare, un, hok', r', q⟩ =>
      obtain rfl : v = V.bl true := q
      obtain rfl : u = Value.bool true := r'
      refine ⟨rfl, OldK.of_keep fun b o h1 => ?_, os, bare⟩
      rcases hq : H b with _ | u
      · exact un.keep b o h1 hq (fun z => nomatch (show b ∈ ([] : List Addr) from z)) (by simp)
      · rcases hO b with z | ⟨ob, xs, z⟩
        · rw [hq] at z; cases z
        · obtain ⟨e1, _⟩ := hok b _ z
          obtain ⟨e2, _⟩ := hok' b _ (un.frzs b ob _ z)
          rw [h1] at e1; cases e1
          exact e2
  rcases hk : K.lookup a with _ | o
  · refine core (fun b => if b = a then some (.frz { cls := .type "list", data := .seq vs.toArray } (.lst (ns.map V.int))) else none) (fun b => ?_) (.inl (.inr ⟨{ cls := .type "list", data := .seq vs.toArray }, if_pos rfl⟩)) (fun b u z => ?_) (fun b z => ?_) fun _ => hk
    all_goals by_cases hba : b = a
    · exact .inr ⟨_, _, if_pos hba⟩
    · exact .inl (if_neg hba)
    · cases (if_pos hba).symm.trans z
      subst hba
      exact ⟨ha, by rw [List.length_map]; exact hl, vs, _, rv, ha⟩
    · cases (if_neg hba).symm.trans z
    · exact hba
    · exact (z (if_neg hba)).elim
  · have q := KX a o hk
    rw [ha] at q
    cases q
    exact core (fun _ => none) (fun _ => .inl rfl) (.inr ⟨_, vs.toArray, _, hk, rfl, rfl, rfl, by rw [List.size_toArray, lenV]; exact hl, by simpa using rv⟩) (fun b u z => nomatch (show (none : Option HO) = some u from z)) (fun b z => absurd rfl z) fun z => absurd rfl z
theorem walk_ofG {l : PySem.W.OpenLaw} {n k : Nat} {q : Program} {loose : List Str} {XP : (Str → Option Value) → Heap → Prop} {YP : World → Heap → Prop} {d : DefRec} {K : Params → PySem.W.Frag} {CX : World → CXT} {sp : World → Sp} {x : Str} (hn : l.most = some n) (hn2 : n ≤ sizeLine) (hdf : d.params.defaults = []) (hr : L2.Room k callerA)
    (hY : ∀ (w : World) (h : Heap), YP w h → (K w.params).In h) (F : ∀ (w : World) (mg : Str → Option Value) (fa : Addr) (h : Heap), (K w.params).In h → h.Ns mainGlobals mg → mg d.name = some (.ref fa) → ∃ fd : FuncData, (∀ (s : Shared) (u : Value), BindsTo s fd ⟨[u], []⟩ [(x, u)]) ∧ ∀ base : Heap, (K w.params).In base → base.Ns mainGlobals mg → FnOk l.prog w (K w.params) mg base (CX w) k fa fd [x] (sp w))
    (hsp : ∀ (w : World) (H : Hp) (a : Addr) (ns : List Int), ns.length ≤ n → (∀ z ∈ ns, Builtin.Int.intBits z ≤ 1048576) → Only H → SqL (K w.params) H a (ns.map V.int) → sp w [.ref a] H (fun v _ => v = .bl true) fun _ _ _ => False) (hCX : ∀ (w : World) (H : Hp) (s : Shared) (e : Value) (s' : Shared), CX w [] H s (fun _ _ _ => False) e s' → False) :
    PySem.W.WalkO q loose XP YP l.row.toRowW d [] (fun f vs => PySem.call f vs) :=
  Att.attach_callB hn hdf fun w s₀ s₁ mg mb fa o pm cd doc a vs ns G yy ho hd hcd hmg hobj hints hlen hbits hg => (F w mg fa _ (hY w _ yy) G.T.g hmg).elim fun fd ⟨hb, hF⟩ =>
    head_call (hY w _ yy) G.T.g G.T.b G.T.builtins G.T.nolimit hg hobj hints (Nat.le_trans hlen hn2) ⟨hr, rfl⟩ hF hb (fun H hO hS => hsp w H a ns hlen hbits hO hS) fun H e s' => hCX w H s₁ e s'
end Y
/-! Y, part D: defs, calls. -/
namespace Y
open PySem L2

/-- a def on data: what it hands back, and what its first argument is then (where it may change it) -/
inductive Fo where
  | rt (x : Vl) (z : Vl) | ex (c : Str) (fs : List (Str × Dt)) (z : Vl) | no
abbrev Fn := List Vl → Fo
def ioE : Bool → Vl → Ev
  | true, z => [some z]
  | false, _ => []
def ioS : Bool → List V → L2.St
  | true, vs => (vs.map some).take 1
  | false, _ => []
def spY (K : PySem.W.Frag) (cl : Str → Addr) (io : Bool) (n : Nat) (f : Fn) : Sp := fun vs H Q E => vs.length = n ∧ ∃ (xs : List Vl) (M : Addr → Prop) (G : Nat → List Addr), ER K (xs.map some) (vs.map some) G M H ∧ (∀ i, (io = true → i ≠ 0) → G i = []) ∧
  match f xs with
  | .rt (x, m) z => ∀ v H' M' G' F, PX K (ioE io z) (ioS io vs) H M G v x m H' M' G' F → Q v H'
  | .ex c fs z => ∀ d H' M' G', XX K (ioE io z) (ioS io vs) H M G fs d H' M' G' → E (.ref (cl c)) d H'
  | .no => False
def cold (xs : List Dt) : List Vl := xs.map fun x => (x, .c)
def flatF (fs : List (Str × Dt)) : Bool := flatL (fs.map (·.2))
section
variable {K : PySem.W.Frag} {cl : Str → Addr} {W : WX} {M M' : Addr → Prop} {H H' : Hp} {G G' : Nat → List Addr} {r r' : Ev} {σ : L2.St}
theorem CoL.get : ∀ {vs : List V} {xs : List Dt} {i : Nat} {x : Dt}, CoL K M H vs xs → xs[i]? = some x → ∃ v, vs[i]? = some v ∧ Co K M H v x
  | _, _, _, _, .nil, e => by simp at e
  | _, _, 0, _, .cons h _, e => by simp at e; subst e; exact ⟨_, rfl, h⟩
  | _, _, i + 1, x, .cons _ q, e => by
    obtain ⟨v, h1, h2⟩ := CoL.get (i := i) (x := x) q (by simpa using e)
    exact ⟨v, by simpa using h1, h2⟩
theorem ER.ofCold {vs : List V} {xs : List Dt} (ht : Hotty M H) (c : CoL K M H vs xs) : ER K ((cold xs).map some) (vs.map some) (fun _ => []) M H := by
  refine ⟨by simp [cold, c.len], fun i x m h => ?_, fun _ _ => rfl, fun _ => List.nodup_nil, fun _ _ _ _ h => (nomatch h), fun _ _ h => (nomatch h), ht⟩
  simp only [cold, List.map_map, List.getElem?_map, Option.map_eq_some_iff] at h
  obtain ⟨y, h1, h2⟩ := h
  simp only [Function.comp] at h2
  cases h2
  obtain ⟨v, h3, h4⟩ := c.get h1
  exact ⟨v, by simp [h3], h4, rfl⟩
/-- one more in front -/
theorem ER.cons {vs : List V} {xs : List Dt} {v0 : V} {x0 : Dt} {m0 : Md} {F0 : List Addr} (ht : Hotty M H) (c : CoL K M H vs xs) (h : Rp K M H m0 v0 x0 F0) (nd : F0.Nodup) (k : ∀ b ∈ F0, M b) :
    ER K (((x0, m0) :: cold xs).map some) ((v0 :: vs).map some) (fun i => if i = 0 then F0 else []) M H := by
  have e := ER.ofCold ht c
  refine ⟨by simpa using e.len, fun i x m hi => ?_, fun i hi => ?_, fun i => ?_, fun i j hne b hb => ?_, fun i b hb => ?_, ht⟩
  · cases i with
    | zero =>
      simp at hi
      obtain ⟨rfl, rfl⟩ := hi
      exact ⟨v0, by simp, by simpa using h⟩
    | succ i =>
      obtain ⟨v, h1, h2⟩ := e.at_ i x m (by simpa using hi)
      exact ⟨v, by simpa using h1, by simpa using h2⟩
  · cases i with
    | zero => exact absurd (by simp) (hi x0 m0)
    | succ i => simp
  · cases i with
    | zero => simpa using nd
    | succ i => simp
  · cases i with
    | zero => cases j with
      | zero => exact absurd rfl hne
      | succ j => simp
    | succ i => simp at hb
  · cases i with
    | zero => exact k b (by simpa using hb)
    | succ i => simp at hb
theorem Rp.flatAny {m : Md} {v : V} {x : Dt} {F : List Addr} (h : Rp K M H m v x F) (hx : x.flat = true) : Rp K M' H m v x F := by
  cases m with
  | c => exact ⟨(h.1.ho hx).cold fun b z => (nomatch z), h.2⟩
  | t =>
    obtain ⟨a, vs, xs, rfl, rfl, _⟩ := h
    simp [Dt.flat] at hx
  | a => exact h
theorem CoL.flatAny {vs : List V} {xs : List Dt} (h : CoL K M H vs xs) (hx : flatL xs = true) : CoL K M' H vs xs := (h.ho hx).cold fun b z => (nomatch z)
theorem XdOk.flatAny {d : Option Addr} {fs : List (Str × Dt)} (h : XdOk K M H d fs) (hx : flatF fs = true) : XdOk K M' H d fs := by
  cases fs with
  | nil => exact h
  | cons f fs =>
    obtain ⟨dx, vs, h1, h2, h3, h4⟩ := h
    exact ⟨dx, vs, h1, h2, h3, h4.flatAny hx⟩
/-- what is said of a callee's end with an environment besides: B the lists lent to it (cold there) -/
theorem after {B : List Addr} {M3 : Addr → Prop} {H2 : Hp} {Gc G3 : Nat → List Addr} {F : List Addr} (e : ER K r σ G M H) (ev : Evo H (fun b => M b ∧ b ∉ B) Gc H2 M3 G3 F) (ht3 : Hotty M3 H2)
    (dj : ∀ i b, b ∈ G i → ∀ j, b ∉ Gc j) (sub : ∀ j b, b ∈ Gc j → M b) (hB : ∀ b ∈ B, M b ∧ ∀ j, b ∉ Gc j) :
    ER K r σ G (fun b => M3 b ∨ b ∈ B) H2 ∧ ∀ b, b ∈ F → (∀ i, b ∉ G i) := by
  have gr : ∀ b, (M3 b ∨ b ∈ B) → M b ∨ H b = none := fun b z => by
    rcases z with z | z
    · rcases ev.grow b z with z | z
      · exact .inl z.1
      · exact .inr z
    · exact .inl (hB b z).1
  refine ⟨e.evoF (fun b o h k => ev.pres b o h fun j hj => ?_) gr (fun i b hb => ?_) fun b z => ?_, fun b hb i hi => ?_⟩
  · rcases k with k | ⟨i, k⟩
    · exact k (sub j b hj)
    · exact dj i b k j hj
  · by_cases q : b ∈ B
    · exact .inr q
    · exact .inl (ev.keep b ⟨e.sub i b hb, q⟩ (dj i b hb))
  · rcases z with z | z
    · exact ht3 b z
    · obtain ⟨xs, q⟩ := e.hot b (hB b z).1
      exact ⟨xs, ev.pres b _ q (hB b z).2⟩
  · obtain ⟨xs, q⟩ := e.hot b (e.sub i b hi)
    rcases ev.res b hb with ⟨j, z⟩ | z
    · exact dj i b hi j z
    · rw [q] at z; cases z
theorem owns_sub (e : ER K r σ G M H) {ys : List Ag} : ∀ b ∈ owns G ys, M b := fun b hb => let ⟨i, h⟩ := mem_owns hb; e.sub i b h
theorem AgL.len {us : List V} {zs : List Ag} (q : AgL K M H σ us zs) : us.length = zs.length := by
  induction q with
  | nil => rfl
  | d _ _ ih => simp [ih]
  | v _ _ ih => simp [ih]
theorem evA_len : ∀ (bs : List Am) {r r' : Ev} {zs : List Ag}, evA bs r = .ok zs r' → zs.length = bs.length := by
  intro bs
  induction bs with
  | nil => intro r r' zs q; simp [evA] at q; simp [← q.1]
  | cons b bs ih =>
    intro r r' zs q
    cases b with
    | e f =>
      simp only [evA] at q
      split at q
      · split at q
        · rename_i h; cases q; simp [ih h]
        · cases q
        · cases q
      · cases q
      · cases q
    | v i =>
      simp only [evA] at q
      split at q
      · split at q
        · rename_i h; cases q; simp [ih h]
        · cases q
        · cases q
      · cases q
theorem evA_v {i : Nat} {as : List Am} {r r' : Ev} {zs : List Ag} (q : evA (.v i :: as) r = .ok zs r') : ∃ ys, zs = .v i :: ys := by
  simp only [evA] at q
  split at q
  · split at q
    · cases q; exact ⟨_, rfl⟩
    · cases q
    · cases q
  · cases q
/-- nothing lent is held by it -/
def zfl : Vl → Bool
  | (x, .c) => x.flat
  | (.l xs, .t) => flatL xs
  | (x, .t) => x.flat
  | (_, .a) => true
theorem Rp.zfl {x : Dt} {m : Md} {v : V} {F : List Addr} (h : Rp K M H m v x F) (hz : zfl (x, m) = true) : Rp K M' H m v x F := by
  cases m with
  | c => exact h.flatAny (by simpa [Y.zfl] using hz)
  | t =>
    obtain ⟨a, vs, xs, h1, rfl, h2, h3, c⟩ := h
    exact ⟨a, vs, xs, h1, rfl, h2, h3, c.flatAny (by simpa [Y.zfl] using hz)⟩
  | a => exact h
/-- a call that changes no argument -/
def mC (fn : Fn) (as : List Am) : Ev → Ou Vl := fun r => match evA as r with
  | .ok ys r1 => match look r1 ys with
    | some xs => match fn (cold xs) with
      | .rt (x, m) _ => .ok (x, m) (if zfl (x, m) then r1 else frz ys r1)
      | .ex c fs _ => if flatF fs then .ex c fs r1 else .no
      | .no => .no
    | none => .no
  | .ex c fs r1 => .ex c fs r1
  | .no => .no
theorem evo_lent {B : List Addr} {M3 : Addr → Prop} {H2 : Hp} {G3 : Nat → List Addr} {F : List Addr} (hB : ∀ b ∈ B, M b ∧ ∃ i, b ∈ G i) (ev : Evo H (fun b => M b ∧ b ∉ B) (fun _ => []) H2 M3 G3 F) : Evo H M G H2 (fun b => M3 b ∨ b ∈ B) G F :=
  ⟨fun b o h _ => ev.pres b o h fun _ z => (nomatch z), ev.dom, fun b z => by
    rcases z with z | z
    · exact (ev.grow b z).imp And.left id
    · exact .inl (hB b z).1, fun b h hb => .inl (ev.keep b ⟨h, fun z => let ⟨i, q⟩ := (hB b z).2; hb i q⟩ fun _ z => (nomatch z)), fun i b h => .inl ⟨i, h⟩, fun b h => .inr ((ev.res b h).elim (fun ⟨_, z⟩ => (nomatch z)) id)⟩
theorem evo_lent2 {B : List Addr} {M3 : Addr → Prop} {H2 : Hp} {G2 G3 : Nat → List Addr} {F : List Addr} (hB : ∀ b ∈ B, M b ∧ ∃ i, b ∈ G i) (hG : ∀ i b, b ∈ G2 i → b ∈ G i) (ev : Evo H (fun b => M b ∧ b ∉ B) (fun _ => []) H2 M3 G3 F) : Evo H M G H2 M3 G2 F :=
  ⟨fun b o h _ => ev.pres b o h fun _ z => (nomatch z), ev.dom, fun b z => (ev.grow b z).imp And.left id, fun b h hb => ev.keep b ⟨h, fun z => let ⟨i, q⟩ := (hB b z).2; hb i q⟩ fun _ z => (nomatch z), fun i b h => .inl ⟨i, hG i b h⟩, fun b h => .inr ((ev.res b h).elim (fun ⟨_, z⟩ => (nomatch z)) id)⟩
theorem mC_ok {n : Nat} {fn : Fn} {as : List Am} {Q : VK} (hn : as.length = n) (h : tI K cl W (mC fn as) σ H Q) : tOs K cl W as σ H fun vs H1 => spY K cl false n fn vs H1 Q (WE W σ) := by
  obtain ⟨r, M, G, e, h⟩ := h
  refine tOs_ok as e ?_
  simp only [mC] at h
  cases ha : evA as r with
  | no => rw [ha] at h; exact h
  | ex c fs r1 => rw [ha] at h; exact h
  | ok ys r1 =>
    rw [ha] at h
    simp only at h
    intro vs H1 M1 G1 e1 v1 a1
    cases hl : look r1 ys with
    | none => rw [hl] at h; exact h.elim
    | some xs =>
      rw [hl] at h
      simp only at h
      have cc : CoL K (fun b => M1 b ∧ b ∉ owns G1 ys) H1 vs xs := look_cold e1 (fun b z => z.1) (fun b hb z => z.2 hb) a1 hl
      have ht1 : Hotty (fun b => M1 b ∧ b ∉ owns G1 ys) H1 := fun b z => e1.hot b z.1
      have hB : ∀ b ∈ owns G1 ys, M1 b ∧ ∃ i, b ∈ G1 i := fun b hb => ⟨owns_sub e1 b hb, mem_owns hb⟩
      have hlen : vs.length = n := by rw [← hn, a1.len, evA_len as ha]
      refine ⟨hlen, cold xs, _, fun _ => [], ER.ofCold ht1 cc, fun _ _ => rfl, ?_⟩
      cases hf : fn (cold xs) with
      | no => rw [hf] at h; exact h
      | rt xm z =>
        obtain ⟨x, m⟩ := xm
        rw [hf] at h
        simp only at h
        intro v H2 M3 G3 F p
        by_cases hx : zfl (x, m) = true
        · rw [if_pos hx] at h
          obtain ⟨e2, f2⟩ := after e1 p.ev p.er.hot (fun _ _ _ _ z => nomatch z) (fun _ _ z => nomatch z) fun b hb => ⟨owns_sub e1 b hb, fun _ z => nomatch z⟩
          exact h v H2 _ G1 F ⟨e2, v1.trans e.hot (evo_lent hB p.ev), p.rp.zfl hx, p.nd, fun b hb => ⟨.inl (p.hot b hb).1, f2 b hb⟩⟩
        · rw [if_neg hx] at h
          obtain ⟨G2, e2, s2⟩ := e1.frz ys
          have ev' : Evo H1 (fun b => (M1 b ∧ b ∉ owns G1 ys) ∧ b ∉ ([] : List Addr)) (fun _ => []) H2 M3 G3 F :=
            ⟨p.ev.pres, p.ev.dom, fun b z => (p.ev.grow b z).imp (fun q => ⟨q, by simp⟩) id, fun b z => p.ev.keep b z.1, p.ev.env, p.ev.res⟩
          obtain ⟨e3, f3⟩ := after (B := []) e2 ev' p.er.hot (fun _ _ _ _ z => nomatch z) (fun _ _ z => nomatch z) fun b hb => nomatch hb
          have e3' : ER K (frz ys r1) σ G2 M3 H2 := e3.lessM (fun b z => .inl z) fun i b hb => (e3.sub i b hb).elim id fun z => nomatch z
          exact h v H2 _ G2 F ⟨e3', v1.trans e.hot (evo_lent2 hB s2 p.ev), p.rp, p.nd, fun b hb => ⟨(p.hot b hb).1, f3 b hb⟩⟩
      | ex c fs z =>
        rw [hf] at h
        simp only at h
        intro d H2 M3 G3 p
        by_cases hx : flatF fs = true
        · rw [if_pos hx] at h
          obtain ⟨e2, f2⟩ := after e1 p.ev p.er.hot (fun _ _ _ _ z => nomatch z) (fun _ _ z => nomatch z) fun b hb => ⟨owns_sub e1 b hb, fun _ z => nomatch z⟩
          exact h d H2 _ G1 ⟨e2, v1.trans e.hot (evo_lent hB p.ev), p.xd.flatAny hx⟩
        · rw [if_neg hx] at h
          exact h.elim
theorem Rp.toA {x : Dt} {m : Md} {v : V} {F : List Addr} (h : Rp K M H m v x F) (hz : Y.zfl (x, m) = true) : Ho K H v x F := by
  cases m with
  | c =>
    obtain ⟨z1, z2⟩ := h
    rw [z2]; exact z1.ho (by simpa [Y.zfl] using hz)
  | t =>
    obtain ⟨a, vs, xs, rfl, rfl, rfl, h3, c⟩ := h
    exact .l h3 (c.ho (by simpa [Y.zfl] using hz))
  | a => exact h
/-- a call that may change its first argument, a variable -/
def mCI (fn : Fn) (i : Nat) (as : List Am) : Ev → Ou Vl := fun r => match evA (.v i :: as) r with
  | .ok ys r1 => match r1[i]? with
    | some (some xm) => match look (r1.set i none) ys.tail with
      | some xs => match fn (xm :: cold xs) with
        | .rt (x, m) z => .ok (x, m) ((if zfl (x, m) && zfl z then r1.set i none else frz ys.tail (r1.set i none)).set i (some z))
        | .ex c fs z => if flatF fs && zfl z then .ex c fs ((r1.set i none).set i (some z)) else .no
        | .no => .no
      | none => .no
    | _ => .no
  | .ex c fs r1 => .ex c fs r1
  | .no => .no
theorem set_id {i : Nat} {v : V} (hv : σ[i]? = some (some v)) : σ.set i (some v) = σ := by
  apply List.ext_getElem?
  intro j
  by_cases q : i = j
  · subst q; rw [List.getElem?_set_self (List.getElem?_eq_some_iff.mp hv).1, hv]
  · rw [List.getElem?_set_ne q]
theorem Rp.lessM {m : Md} {v : V} {x : Dt} {F : List Addr} (h : Rp K M H m v x F) (q : ∀ b, M' b → M b) (ht : Hotty M H) : Rp K M' H m v x F := by
  cases m with
  | c => exact ⟨h.1.less q ht, h.2⟩
  | t => obtain ⟨a, vs, xs, rfl, rfl, rfl, e, c⟩ := h; exact ⟨a, vs, xs, rfl, rfl, rfl, e, c.less q ht⟩
  | a => exact h
theorem frz_len : ∀ (ys : List Ag) (r : Ev), (frz ys r).length = r.length
  | [], _ => rfl
  | .d _ :: ys, r => frz_len ys r
  | .v i :: ys, r => by
    simp only [frz]
    split
    · rw [frz_len ys]; simp
    · exact frz_len ys r
/-- the first argument's new state is put back -/
theorem put_back {i : Nat} {v0 : V} {M3 : Addr → Prop} {H2 : Hp} {G2 : Nat → List Addr} {F : List Addr} {x : Dt} {m : Md} (hv : σ[i]? = some (some v0)) (e : ER K r σ G2 M3 H2) (rp : Rp K M3 H2 m v0 x F) (nd : F.Nodup) (k : ∀ b ∈ F, M3 b ∧ ∀ j, b ∉ G2 j) :
    ER K (r.set i (some (x, m))) σ (fun j => if j = i then F else G2 j) M3 H2 := by
  have := e.put (i := i) (v := v0) rp nd k (List.getElem?_eq_some_iff.mp hv).1
  rwa [set_id hv] at this
theorem PX.first {v0 : V} {z : Vl} {M0 : Addr → Prop} {H0 : Hp} {G0 : Nat → List Addr} {v : V} {x : Dt} {m : Md} {F : List Addr} (p : PX K [some z] [some v0] H0 M0 G0 v x m H M G F) : Rp K M H z.2 v0 z.1 (G 0) := by
  obtain ⟨w, h1, h2⟩ := p.er.at_ 0 z.1 z.2 rfl
  simp at h1
  subst h1
  exact h2
theorem callI_core {n : Nat} {fn : Fn} {i : Nat} {r1 : Ev} {G1 : Nat → List Addr} {M1 : Addr → Prop} {H1 : Hp} {v0 : V} {vs : List V} {ys : List Ag} {x0 : Dt} {m0 : Md} {xs : List Dt} {Q : VK} {E : XK} (e1 : ER K r1 σ G1 M1 H1) (hlen : (v0 :: vs).length = n) (hv : σ[i]? = some (some v0)) (a1 : AgL K M1 H1 σ vs ys) (hr : r1[i]? = some (some (x0, m0))) (hl : look (r1.set i none) ys = some xs)
    (h : match fn ((x0, m0) :: cold xs) with
      | .rt (x, m) z => ∀ v H2 M2 G2 F, PX K ((if zfl (x, m) && zfl z then r1.set i none else frz ys (r1.set i none)).set i (some z)) σ H1 M1 G1 v x m H2 M2 G2 F → Q v H2
      | .ex c fs z => if flatF fs && zfl z then ∀ d H2 M2 G2, XX K ((r1.set i none).set i (some z)) σ H1 M1 G1 fs d H2 M2 G2 → E (.ref (cl c)) d H2 else False
      | .no => False) : spY K cl true n fn (v0 :: vs) H1 Q E := by
  obtain ⟨v0', hv', rp0⟩ := e1.at_ i x0 m0 hr
  rw [hv] at hv'; cases hv'
  have ed := e1.drop i
  generalize hGd : (fun j => if j = i then ([] : List Addr) else G1 j) = Gd at ed
  have gd : ∀ j b, b ∈ Gd j → j ≠ i ∧ b ∈ G1 j := fun j b hb => by
    rw [← hGd] at hb
    by_cases q : j = i
    · simp [q] at hb
    · exact ⟨q, by simpa [q] using hb⟩
  have gdi : ∀ j b, b ∈ Gd j → b ∉ G1 i := fun j b hb => let ⟨q, z⟩ := gd j b hb; e1.dj j i q b z
  have cc : CoL K (fun b => M1 b ∧ b ∉ owns Gd ys) H1 vs xs := look_cold ed (fun b z => z.1) (fun b hb z => z.2 hb) a1 hl
  have ht1 : Hotty (fun b => M1 b ∧ b ∉ owns Gd ys) H1 := fun b z => e1.hot b z.1
  have ow : ∀ b ∈ owns Gd ys, b ∉ G1 i := fun b hb => let ⟨j, q⟩ := mem_owns hb; gdi j b q
  have ec := ER.cons (v0 := v0) (x0 := x0) (m0 := m0) (F0 := G1 i) ht1 cc (rp0.lessM (fun b z => z.1) e1.hot) (e1.nd i) fun b hb => ⟨e1.sub i b hb, fun z => ow b z hb⟩
  refine ⟨hlen, (x0, m0) :: cold xs, _, _, ec, fun j hj => if_neg (hj rfl), ?_⟩
  -- what the callee's frame says of the rest
  have rest : ∀ {M3 : Addr → Prop} {H2 : Hp} {G3 : Nat → List Addr} {F : List Addr}, Evo H1 (fun b => M1 b ∧ b ∉ owns Gd ys) (fun j => if j = 0 then G1 i else []) H2 M3 G3 F → Hotty M3 H2 →
      (ER K (r1.set i none) σ Gd (fun b => M3 b ∨ b ∈ owns Gd ys) H2 ∧ (∀ b, b ∈ F → ∀ j, b ∉ Gd j) ∧ (∀ b, b ∈ G3 0 → ∀ j, b ∉ Gd j)) := fun {M3 H2 G3 F} ev ht3 => by
    obtain ⟨e2, f2⟩ := after ed ev ht3 (fun j b hb l hb2 => by
      cases l with
      | zero => exact gdi j b hb (by simpa using hb2)
      | succ l => simp at hb2) (fun l b hb => by
      cases l with
      | zero => exact e1.sub i b (by simpa using hb)
      | succ l => simp at hb) fun b hb => ⟨(owns_sub ed b hb), fun l z => by
      cases l with
      | zero => exact ow b hb (by simpa using z)
      | succ l => simp at z⟩
    refine ⟨e2, f2, fun b hb j hj => ?_⟩
    rcases ev.env 0 b hb with ⟨l, z⟩ | z
    · cases l with
      | zero => exact gdi j b hj (by simpa using z)
      | succ l => simp at z
    · obtain ⟨zs, q⟩ := ed.hot b (ed.sub j b hj)
      rw [q] at z; cases z
  have evs : ∀ {M3 : Addr → Prop} {H2 : Hp} {G3 : Nat → List Addr} {F : List Addr} {M4 : Addr → Prop} {G4 : Nat → List Addr}, Evo H1 (fun b => M1 b ∧ b ∉ owns Gd ys) (fun j => if j = 0 then G1 i else []) H2 M3 G3 F →
      (∀ b, M4 b → M3 b ∨ b ∈ owns Gd ys) → (∀ b, M3 b → M4 b) → (∀ b ∈ owns Gd ys, M4 b ∨ True) → (∀ j b, b ∈ G4 j → b ∈ G1 j ∨ b ∈ G3 0) → Evo H1 M1 G1 H2 M4 G4 F := fun {M3 H2 G3 F M4 G4} ev m4 m3 _ g4 => by
    have noi : ∀ b, (∀ j, b ∉ G1 j) → ∀ l, b ∉ (fun j => if j = 0 then G1 i else []) l := fun b hb l z => by
      cases l with
      | zero => exact hb i (by simpa using z)
      | succ l => simp at z
    have frm : ∀ {b : Addr}, ((∃ j, b ∈ (fun j => if j = 0 then G1 i else []) j) ∨ H1 b = none) → (∃ j, b ∈ G1 j) ∨ H1 b = none := fun {b} z => z.imp (fun ⟨l, q⟩ => by
      cases l with
      | zero => exact ⟨i, by simpa using q⟩
      | succ l => simp at q) id
    refine ⟨fun b o h hb => ev.pres b o h (noi b hb), ev.dom, fun b z => ?_, fun b h hb => ?_, fun j b hb => ?_, fun b hb => frm (ev.res b hb)⟩
    · rcases m4 b z with z | z
      · exact (ev.grow b z).imp And.left id
      · exact .inl (owns_sub ed b z)
    · exact m3 b (ev.keep b ⟨h, fun z => let ⟨j, q⟩ := mem_owns z; hb j (gd j b q).2⟩ (noi b hb))
    · rcases g4 j b hb with q | q
      · exact .inl ⟨j, q⟩
      · exact frm (ev.env 0 b q)
  cases hf : fn ((x0, m0) :: cold xs) with
  | no => rw [hf] at h; exact h
  | rt xm z =>
    obtain ⟨x, m⟩ := xm
    obtain ⟨zx, zm⟩ := z
    rw [hf] at h
    simp only at h
    intro v H2 M3 G3 F p
    have p : PX K [some (zx, zm)] [some v0] H1 (fun b => M1 b ∧ b ∉ owns Gd ys) (fun j => if j = 0 then G1 i else []) v x m H2 M3 G3 F := p
    obtain ⟨e2, f2, g2⟩ := rest p.ev p.er.hot
    have rpz := p.first
    by_cases hx : (zfl (x, m) && zfl (zx, zm)) = true
    · rw [if_pos hx] at h
      rw [Bool.and_eq_true] at hx
      have e3 := put_back hv e2 (rpz.zfl hx.2) (p.er.nd 0) fun b hb => ⟨.inl (p.er.sub 0 b hb), g2 b hb⟩
      refine h v H2 _ _ F ⟨e3, (evs p.ev (fun b z => z) (fun b z => .inl z) (fun _ _ => .inr trivial) fun j b hb => ?_), p.rp.zfl hx.1, p.nd, fun b hb => ⟨.inl (p.hot b hb).1, fun j hj => ?_⟩⟩
      · by_cases q : j = i
        · simp only [if_pos q] at hb; exact .inr hb
        · simp only [if_neg q] at hb; exact .inl (gd j b hb).2
      · by_cases q : j = i
        · simp only [if_pos q] at hj; exact (p.hot b hb).2 0 hj
        · simp only [if_neg q] at hj; exact f2 b hb j hj
    · rw [if_neg hx] at h
      obtain ⟨Gf, ef, sf⟩ := ed.frz ys
      have ev' : Evo H1 (fun b => (M1 b ∧ b ∉ owns Gd ys) ∧ b ∉ ([] : List Addr)) (fun j => if j = 0 then G1 i else []) H2 M3 G3 F :=
        ⟨p.ev.pres, p.ev.dom, fun b z => (p.ev.grow b z).imp (fun q => ⟨q, by simp⟩) id, fun b z => p.ev.keep b z.1, p.ev.env, p.ev.res⟩
      obtain ⟨e3, f3⟩ := after (B := []) ef ev' p.er.hot (fun j b hb l hb2 => by
        cases l with
        | zero => exact gdi j b (sf j b hb) (by simpa using hb2)
        | succ l => simp at hb2) (fun l b hb => by
        cases l with
        | zero => have hb : b ∈ G1 i := by simpa using hb
                  exact ⟨e1.sub i b hb, fun z => ow b z hb⟩
        | succ l => simp at hb) fun b hb => nomatch hb
      have e3' : ER K (frz ys (r1.set i none)) σ Gf M3 H2 := e3.lessM (fun b z => .inl z) fun j b hb => (e3.sub j b hb).elim id fun z => nomatch z
      have e4 := put_back hv e3' rpz (p.er.nd 0) fun b hb => ⟨p.er.sub 0 b hb, fun j hj => g2 b hb j (sf j b hj)⟩
      refine h v H2 _ _ F ⟨e4, (evs p.ev (fun b z => .inl z) (fun b z => z) (fun _ _ => .inr trivial) fun j b hb => ?_), p.rp, p.nd, fun b hb => ⟨(p.hot b hb).1, fun j hj => ?_⟩⟩
      · by_cases q : j = i
        · simp only [if_pos q] at hb; exact .inr hb
        · simp only [if_neg q] at hb; exact .inl (gd j b (sf j b hb)).2
      · by_cases q : j = i
        · simp only [if_pos q] at hj; exact (p.hot b hb).2 0 hj
        · simp only [if_neg q] at hj; exact f3 b hb j hj
  | ex c fs z =>
    obtain ⟨zx, zm⟩ := z
    rw [hf] at h
    simp only at h
    intro d H2 M3 G3 p
    have p : XX K [some (zx, zm)] [some v0] H1 (fun b => M1 b ∧ b ∉ owns Gd ys) (fun j => if j = 0 then G1 i else []) fs d H2 M3 G3 := p
    by_cases hx : (flatF fs && zfl (zx, zm)) = true
    · rw [if_pos hx] at h
      rw [Bool.and_eq_true] at hx
      obtain ⟨e2, f2, g2⟩ := rest p.ev p.er.hot
      obtain ⟨w, hw1, rpz⟩ := p.er.at_ 0 zx zm rfl
      simp at hw1
      subst hw1
      have e3 := put_back hv e2 (rpz.zfl hx.2) (p.er.nd 0) fun b hb => ⟨.inl (p.er.sub 0 b hb), g2 b hb⟩
      refine h d H2 _ _ ⟨e3, (evs p.ev (fun b z => z) (fun b z => .inl z) (fun _ _ => .inr trivial) fun j b hb => ?_), p.xd.flatAny hx.1⟩
      by_cases q : j = i
      · simp only [if_pos q] at hb; exact .inr hb
      · simp only [if_neg q] at hb; exact .inl (gd j b hb).2
    · rw [if_neg hx] at h
      exact h.elim
theorem mCI_ok {n : Nat} {fn : Fn} {i : Nat} {as : List Am} {Q : VK} (hn : as.length + 1 = n) (h : tI K cl W (mCI fn i as) σ H Q) : tOs K cl W (.v i :: as) σ H fun vs H1 => spY K cl true n fn vs H1 Q (WE W σ) := by
  obtain ⟨r, M, G, e, h⟩ := h
  refine tOs_ok (.v i :: as) e ?_
  simp only [mCI] at h
  cases ha : evA (.v i :: as) r with
  | no => rw [ha] at h; exact h
  | ex c fs r1 => rw [ha] at h; exact h
  | ok ys0 r1 =>
    rw [ha] at h
    obtain ⟨ys, rfl⟩ := evA_v ha
    simp only [List.tail_cons] at h
    intro vs0 H1 M1 G1 e1 v1 a1
    have hlen : vs0.length = n := by rw [← hn, a1.len, evA_len _ ha]; rfl
    cases a1 with
    | @v v0 vs _ _ hv a1 =>
    cases hr : r1[i]? with
    | none => rw [hr] at h; exact h.elim
    | some o =>
      cases o with
      | none => rw [hr] at h; exact h.elim
      | some xm =>
        obtain ⟨x0, m0⟩ := xm
        rw [hr] at h
        simp only at h
        cases hl : look (r1.set i none) ys with
        | none => rw [hl] at h; exact h.elim
        | some xs =>
          rw [hl] at h
          simp only at h
          refine callI_core e1 hlen hv a1 hr hl ?_
          cases hf : fn ((x0, m0) :: cold xs) with
          | no => rw [hf] at h; exact h
          | rt xm z =>
            obtain ⟨x, m⟩ := xm
            rw [hf] at h
            exact fun v H2 M2 G2 F p => h v H2 M2 G2 F ⟨p.er, v1.trans e.hot p.ev, p.rp, p.nd, p.hot⟩
          | ex c fs z =>
            rw [hf] at h
            simp only at h ⊢
            by_cases hx : (flatF fs && zfl z) = true
            · rw [if_pos hx] at h ⊢
              exact fun d H2 M2 G2 p => h d H2 M2 G2 ⟨p.er, v1.trans e.hot p.ev, p.xd⟩
            · rw [if_neg hx] at h
              exact h.elim
end
section
variable {X : Cx} {cl : Str → Addr} {W : WX}
theorem je_call {k : Nat} {f : Addr} {fd : FuncData} {ps : List Str} {n : Nat} {fn : Fn} {x : Str} {p pos : Pos} {e : Expr} {es : List Expr} {as : List Am} (F : FnOk X.prog X.w X.K X.mg X.base (L2.CX X.prog X.w) k f fd ps (spY X.K cl false n fn)) (hr : Room k X.A)
    (hm : X.mg x = some (.ref f)) (hk : PySem.W.keepIn X.K (.ref f) = true) (hb : Binds X.K fd ps []) (ha : JA X cl W (e :: es) as) (hn : as.length = n := by rfl) (hg : Gl X x := by rfl) (hdb : (x == ("__debug__" : Str)) = false := by decide)
    (he : starEach (e :: es) X.env = (false, eval e X.env) :: starEach es X.env := by rfl) (hpl : (backTo pos (starEach es X.env)).any (·.1) = false := by rfl) : JE X cl W (.Call (.Name x p) (e :: es) [] pos) (mC fn as) := fun tk =>
  (pe_callS F hr hg hm hk hb (fun σ => passAt tk σ) (ha.pa tk) hdb he hpl).yimp fun _ _ _ q => mC_ok hn q
theorem je_callI {k : Nat} {f : Addr} {fd : FuncData} {ps : List Str} {n : Nat} {fn : Fn} {i : Nat} {x : Str} {p pos : Pos} {e : Expr} {es : List Expr} {as : List Am} (F : FnOk X.prog X.w X.K X.mg X.base (L2.CX X.prog X.w) k f fd ps (spY X.K cl true n fn)) (hr : Room k X.A)
    (hm : X.mg x = some (.ref f)) (hk : PySem.W.keepIn X.K (.ref f) = true) (hb : Binds X.K fd ps []) (ha : JA X cl W (e :: es) (.v i :: as)) (hn : as.length + 1 = n := by rfl) (hg : Gl X x := by rfl) (hdb : (x == ("__debug__" : Str)) = false := by decide)
    (he : starEach (e :: es) X.env = (false, eval e X.env) :: starEach es X.env := by rfl) (hpl : (backTo pos (starEach es X.env)).any (·.1) = false := by rfl) : JE X cl W (.Call (.Name x p) (e :: es) [] pos) (mCI fn i as) := fun tk =>
  (pe_callS F hr hg hm hk hb (fun σ => passAt tk σ) (ha.pa tk) hdb he hpl).yimp fun _ _ _ q => mCI_ok hn q
end
end Y
/-! Y, part E: statements, defs' bodies. -/
namespace Y
open PySem L2

inductive So where
  | nx (r : Ev) | rt (x : Vl) (r : Ev) | bk (r : Ev) | ct (r : Ev) | ex (c : Str) (fs : List (Str × Dt)) (r : Ev) | no
/-- a statement's end; io: the first slot stays as it is (the argument that may be changed) -/
structure SX (K : PySem.W.Frag) (io : Bool) (r' : Ev) (σ σ' : L2.St) (H : Hp) (M : Addr → Prop) (G : Nat → List Addr) (H' : Hp) (M' : Addr → Prop) (G' : Nat → List Addr) : Prop where
  er : ER K r' σ' G' M' H'
  ev : Evo H M G H' M' G' []
  pin : io = true → σ'[0]? = σ[0]?
structure RX (K : PySem.W.Frag) (io : Bool) (r' : Ev) (σ σ' : L2.St) (H : Hp) (M : Addr → Prop) (G : Nat → List Addr) (v : V) (x : Dt) (m : Md) (H' : Hp) (M' : Addr → Prop) (G' : Nat → List Addr) (F : List Addr) : Prop where
  px : PX K r' σ' H M G v x m H' M' G' F
  pin : io = true → σ'[0]? = σ[0]?
structure EX (K : PySem.W.Frag) (io : Bool) (r' : Ev) (σ σ' : L2.St) (H : Hp) (M : Addr → Prop) (G : Nat → List Addr) (fs : List (Str × Dt)) (d : Option Addr) (H' : Hp) (M' : Addr → Prop) (G' : Nat → List Addr) : Prop where
  xx : XX K r' σ' H M G fs d H' M' G'
  pin : io = true → σ'[0]? = σ[0]?
/-- what is wanted of a statement's ends -/
def sEnd (K : PySem.W.Frag) (cl : Str → Addr) (W : WX) (io : Bool) (D : Ends) (σ : L2.St) (H : Hp) (M : Addr → Prop) (G : Nat → List Addr) : So → Prop
  | .nx r' => ∀ σ' H' M' G', SX K io r' σ σ' H M G H' M' G' → D.nx σ' H'
  | .bk r' => ∀ σ' H' M' G', SX K io r' σ σ' H M G H' M' G' → D.bk σ' H'
  | .ct r' => ∀ σ' H' M' G', SX K io r' σ σ' H M G H' M' G' → D.ct σ' H'
  | .rt (x, m) r' => ∀ v σ' H' M' G' F, RX K io r' σ σ' H M G v x m H' M' G' F → D.rt v H'
  | .ex c fs r' => ∀ d σ' H' M' G', EX K io r' σ σ' H M G fs d H' M' G' → W (.ref (cl c)) d σ' H'
  | .no => False
def tIS (K : PySem.W.Frag) (cl : Str → Addr) (W : WX) (io : Bool) (g : Ev → So) : TS := fun D σ H => ∃ r M G, ER K r σ G M H ∧ sEnd K cl W io D σ H M G (g r)
def JS (X : Cx) (cl : Str → Addr) (W : WX) (io : Bool) (st : Stmt) (g : Ev → So) : Prop := Takes X W → PS X st (tIS X.K cl W io g)
def JB (X : Cx) (cl : Str → Addr) (W : WX) (io : Bool) (sts : List Stmt) (g : Ev → So) : Prop := Takes X W → PSs X sts (tIS X.K cl W io g)
theorem _root_.L2.PS.yimp {X : Cx} {e : Stmt} {t t' : TS} (h : PS X e t) (k : ∀ D σ H, t' D σ H → t D σ H) : PS X e t' := ⟨fun pins s σ H D I q => h.run pins s σ H D I (k D σ H q)⟩
theorem _root_.L2.PSs.yimp {X : Cx} {e : List Stmt} {t t' : TS} (h : PSs X e t) (k : ∀ D σ H, t' D σ H → t D σ H) : PSs X e t' := ⟨fun pins s σ H D I q => h.run pins s σ H D I (k D σ H q)⟩
section
variable {K : PySem.W.Frag} {cl : Str → Addr} {W : WX} {io : Bool} {M M' M0 : Addr → Prop} {H H' H0 : Hp} {G G' G0 : Nat → List Addr} {r r' : Ev} {σ σ0 : L2.St} {D : Ends}
/-- from an earlier state -/
theorem sEnd.back (ht : Hotty M0 H0) (ev : Evo H0 M0 G0 H M G []) (pin : io = true → σ[0]? = σ0[0]?) : ∀ {o : So}, sEnd K cl W io D σ0 H0 M0 G0 o → sEnd K cl W io D σ H M G o
  | .nx r', h => fun σ' H' M' G' p => h σ' H' M' G' ⟨p.er, ev.trans ht p.ev, fun i => (p.pin i).trans (pin i)⟩
  | .bk r', h => fun σ' H' M' G' p => h σ' H' M' G' ⟨p.er, ev.trans ht p.ev, fun i => (p.pin i).trans (pin i)⟩
  | .ct r', h => fun σ' H' M' G' p => h σ' H' M' G' ⟨p.er, ev.trans ht p.ev, fun i => (p.pin i).trans (pin i)⟩
  | .rt (x, m) r', h => fun v σ' H' M' G' F p => h v σ' H' M' G' F ⟨⟨p.px.er, ev.trans ht p.px.ev, p.px.rp, p.px.nd, p.px.hot⟩, fun i => (p.pin i).trans (pin i)⟩
  | .ex c fs r', h => fun d σ' H' M' G' p => h d σ' H' M' G' ⟨⟨p.xx.er, ev.trans ht p.xx.ev, p.xx.xd⟩, fun i => (p.pin i).trans (pin i)⟩
  | .no, h => h
theorem sEnd.mono {D' : Ends} (hn : ∀ σ H, D.nx σ H → D'.nx σ H) (hr : ∀ v H, D.rt v H → D'.rt v H) (hb : ∀ σ H, D.bk σ H → D'.bk σ H) (hc : ∀ σ H, D.ct σ H → D'.ct σ H) : ∀ {o : So}, sEnd K cl W io D σ H M G o → sEnd K cl W io D' σ H M G o
  | .nx r', h => fun σ' H' M' G' p => hn _ _ (h σ' H' M' G' p)
  | .bk r', h => fun σ' H' M' G' p => hb _ _ (h σ' H' M' G' p)
  | .ct r', h => fun σ' H' M' G' p => hc _ _ (h σ' H' M' G' p)
  | .rt (x, m) r', h => fun v σ' H' M' G' F p => hr _ _ (h v σ' H' M' G' F p)
  | .ex c fs r', h => h
  | .no, h => h
/-- an expression, then something of it -/
def sWith (f : Ev → Ou Vl) (k : Vl → Ev → So) : Ev → So := fun r => match f r with
  | .ok x r' => k x r'
  | .ex c fs r' => .ex c fs r'
  | .no => .no
theorem tIS_with {f : Ev → Ou Vl} {k : Vl → Ev → So} {Q : VK} (h : tIS K cl W io (sWith f k) D σ H)
    (q : ∀ r M G x m r' v H' M' G' F, ER K r σ G M H → PX K r' σ H M G v x m H' M' G' F → sEnd K cl W io D σ H M G (k (x, m) r') → Q v H') : tI K cl W f σ H Q := by
  obtain ⟨r, M, G, e, h⟩ := h
  refine ⟨r, M, G, e, ?_⟩
  simp only [sWith] at h
  cases hf : f r with
  | no => rw [hf] at h; exact h
  | ex c fs r' =>
    rw [hf] at h
    exact fun d H' M' G' p => h d σ H' M' G' ⟨p, fun _ => rfl⟩
  | ok xm r' =>
    obtain ⟨x, m⟩ := xm
    rw [hf] at h
    exact fun v H' M' G' F p => q r M G x m r' v H' M' G' F e p h
end
section
variable {X : Cx} {cl : Str → Addr} {W : WX} {io : Bool}
/-! ### blocks -/
def sSeq (f g : Ev → So) : Ev → So := fun r => match f r with
  | .nx r' => g r'
  | o => o
def sNx : Ev → So := fun r => .nx r
theorem jb_nil : JB X cl W io [] sNx := fun _ => pss_nil.yimp fun D σ H ⟨r, M, G, e, h⟩ => h σ H M G ⟨e, .refl, fun _ => rfl⟩
theorem tIS_seq {K : PySem.W.Frag} {f g : Ev → So} {D : Ends} {σ : L2.St} {H : Hp} (h : tIS K cl W io (sSeq f g) D σ H) : tIS K cl W io f { D with nx := tIS K cl W io g D } σ H := by
  obtain ⟨r, M, G, e, h⟩ := h
  refine ⟨r, M, G, e, ?_⟩
  simp only [sSeq] at h
  cases hf : f r with
  | nx r' =>
    rw [hf] at h
    exact fun σ' H' M' G' p => ⟨r', M', G', p.er, h.back e.hot p.ev p.pin⟩
  | rt x r' => rw [hf] at h; exact h
  | bk r' => rw [hf] at h; exact h
  | ct r' => rw [hf] at h; exact h
  | ex c fs r' => rw [hf] at h; exact h
  | no => rw [hf] at h; exact h
theorem jb_c {st : Stmt} {sts : List Stmt} {f g : Ev → So} (h : JS X cl W io st f) (q : JB X cl W io sts g) : JB X cl W io (st :: sts) (sSeq f g) := fun tk =>
  (pss_cons (h tk) (q tk)).yimp fun _ _ _ z => tIS_seq z
theorem jb_1 {st : Stmt} {f : Ev → So} (h : JS X cl W io st f) : JB X cl W io [st] f := fun tk => pss_one (h tk)
theorem js_pass {pos : Pos} : JS X cl W io (.Pass pos) sNx := fun _ => ps_pass.yimp fun D σ H ⟨r, M, G, e, h⟩ => h σ H M G ⟨e, .refl, fun _ => rfl⟩
def sNo : Ev → So := fun _ => .no
theorem js_never {st : Stmt} : JS X cl W io st sNo := fun _ => ps_never.yimp fun D σ H ⟨r, M, G, e, h⟩ => h
def sBk : Ev → So := fun r => .bk r
def sCt : Ev → So := fun r => .ct r
theorem js_break {pos : Pos} : JS X cl W io (.Break pos) sBk := fun _ => ps_break.yimp fun D σ H ⟨r, M, G, e, h⟩ => h σ H M G ⟨e, .refl, fun _ => rfl⟩
theorem js_continue {pos : Pos} : JS X cl W io (.Continue pos) sCt := fun _ => ps_continue.yimp fun D σ H ⟨r, M, G, e, h⟩ => h σ H M G ⟨e, .refl, fun _ => rfl⟩
/-! ### return -/
def sRet (f : Ev → Ou Vl) : Ev → So := sWith f fun x r => .rt x r
theorem js_ret {e : Expr} {f : Ev → Ou Vl} {pos : Pos} (h : JE X cl W e f) : JS X cl W io (.Return (some e) pos) (sRet f) := fun tk => (ps_ret (h tk)).yimp fun D σ H q =>
  tIS_with q fun r M G x m r' v H' M' G' F e p k => k v σ H' M' G' F ⟨p, fun _ => rfl⟩
/-- a variable handed back: it is moved -/
def sRetV (i : Nat) : Ev → So := fun r => match r[i]? with
  | some (some x) => .rt x (r.set i none)
  | _ => .no
theorem js_retV {e : Expr} (i : Nat) {pos : Pos} (h : PE X e (tVar i)) : JS X cl W io (.Return (some e) pos) (sRetV i) := fun _ => (ps_ret h).yimp fun D σ H ⟨r, M, G, e, q⟩ => by
  simp only [sRetV] at q
  cases hr : r[i]? with
  | none => rw [hr] at q; exact q.elim
  | some o =>
    cases o with
    | none => rw [hr] at q; exact q.elim
    | some xm =>
      obtain ⟨x, m⟩ := xm
      rw [hr] at q
      obtain ⟨v, hv, rp⟩ := e.at_ i x m hr
      refine ⟨v, hv, q v σ H M _ (G i) ⟨⟨e.drop i, ⟨fun _ _ h _ => h, fun _ h => h, fun _ h => .inl h, fun _ h _ => h, fun j b hb => .inl ⟨j, ?_⟩, fun b hb => .inl ⟨i, hb⟩⟩, rp, e.nd i, fun b hb => ⟨e.sub i b hb, fun j hj => ?_⟩⟩, fun _ => rfl⟩⟩
      · by_cases z : j = i
        · simp [z] at hb
        · simpa [z] using hb
      · by_cases z : j = i
        · simp [z] at hj
        · simp only [if_neg z] at hj
          exact e.dj j i z b hj hb
def sRetN : Ev → So := fun r => .rt (.n, .c) r
theorem js_retN {pos : Pos} : JS X cl W io (.Return none pos) sRetN := fun _ => ps_retN.yimp fun D σ H ⟨r, M, G, e, h⟩ => h .non σ H M G [] ⟨⟨e, .refl, ⟨.n, rfl⟩, List.nodup_nil, fun _ z => (nomatch z)⟩, fun _ => rfl⟩
/-! ### expression statements -/
def sExpr (f : Ev → Ou Vl) : Ev → So := sWith f fun _ r => .nx r
theorem js_expr {e : Expr} {f : Ev → Ou Vl} {pos : Pos} (h : JE X cl W e f) (hs : swapsWith e none pos.line X.env = pure false := by rfl) : JS X cl W io (.Expr e pos) (sExpr f) := fun tk => (ps_expr (h tk) hs).yimp fun D σ H q =>
  tIS_with q fun r M G x m r' v H' M' G' F e p k => by
    obtain ⟨M2, e2, v2, _⟩ := p.giveUp e.hot
    exact k σ H' M2 G' ⟨e2, v2, fun _ => rfl⟩
/-! ### if -/
def sIf (c : Ev → Ou Bool) (f g : Ev → So) : Ev → So := fun r => match c r with
  | .ok true r' => f r'
  | .ok false r' => g r'
  | .ex c fs r' => .ex c fs r'
  | .no => .no
theorem js_if {c : Expr} {a b : List Stmt} {fc : Ev → Ou Bool} {f g : Ev → So} {pos : Pos} (hc : JT X cl W c fc) (ha : JB X cl W io a f) (hb : JB X cl W io b g) : JS X cl W io (.If c a b pos) (sIf fc f g) := fun tk =>
  (ps_if (hc tk) (ha tk) (hb tk)).yimp fun D σ H ⟨r, M, G, e, q⟩ => by
    refine ⟨r, M, G, e, ?_⟩
    simp only [sIf] at q
    cases hf : fc r with
    | no => rw [hf] at q; exact q
    | ex c fs r' =>
      rw [hf] at q
      exact fun d H' M' G' p => q d σ H' M' G' ⟨p, fun _ => rfl⟩
    | ok k r' =>
      rw [hf] at q
      intro H' M' G' e' v'
      cases k with
      | true => rw [if_pos rfl]; exact ⟨r', M', G', e', q.back e.hot v' fun _ => rfl⟩
      | false => rw [if_neg Bool.false_ne_true]; exact ⟨r', M', G', e', q.back e.hot v' fun _ => rfl⟩
/-! ### assignment -/
/-- a target: it stores a value with its owned lists -/
def TgOk (K : PySem.W.Frag) (io : Bool) (g : TG) (t : Vl → Ev → Option Ev) : Prop :=
  ∀ (r : Ev) (σ : L2.St) (G : Nat → List Addr) (M : Addr → Prop) (H : Hp) (v : V) (x : Dt) (m : Md) (F : List Addr) (r' : Ev) (Q : L2.St → Hp → Prop), ER K r σ G M H → Rp K M H m v x F → F.Nodup → (∀ b ∈ F, M b ∧ ∀ i, b ∉ G i) → t (x, m) r = some r' →
    (∀ σ' H' M' G', ER K r' σ' G' M' H' → (∀ b o, H b = some o → (∀ i, b ∉ G i) → b ∉ F → H' b = some o) → (∀ b, H' b = none → H b = none) → (∀ b, M' b → M b ∨ H b = none) → (∀ b, M b → (∀ i, b ∉ G i) → b ∉ F → M' b) → (∀ i b, b ∈ G' i → (∃ j, b ∈ G j) ∨ b ∈ F ∨ H b = none) → (io = true → σ'[0]? = σ[0]?) → Q σ' H') → g v σ H Q
def sAsg (f : Ev → Ou Vl) (t : Vl → Ev → Option Ev) : Ev → So := sWith f fun x r => match t x r with
  | some r' => .nx r'
  | none => .no
theorem asg_go {K : PySem.W.Frag} {f : Ev → Ou Vl} {t : Vl → Ev → Option Ev} {g : TG} {D : Ends} {σ : L2.St} {H : Hp} (ht : TgOk K io g t) (q : tIS K cl W io (sAsg f t) D σ H) : tI K cl W f σ H fun v H1 => g v σ H1 D.nx :=
  tIS_with q fun r M G x m r' v H' M' G' F e p k => by
    cases hk : t (x, m) r' with
    | none => simp only [hk] at k; exact k.elim
    | some r2 =>
      simp only [hk] at k
      refine ht r' σ G' M' H' v x m F r2 _ p.er p.rp p.nd p.hot hk fun σ2 H2 M2 G2 e2 pr dm gr kp en pin => ?_
      have nf : ∀ b o, H b = some o → (∀ i, b ∉ G i) → b ∉ F := fun b o h hb hf => by
        rcases p.ev.res b hf with ⟨j, z⟩ | z
        · exact hb j z
        · rw [h] at z; cases z
      have ng : ∀ b o, H b = some o → (∀ i, b ∉ G i) → ∀ i, b ∉ G' i := fun b o h hb i hi => by
        rcases p.ev.env i b hi with ⟨j, z⟩ | z
        · exact hb j z
        · rw [h] at z; cases z
      refine k σ2 H2 M2 G2 ⟨e2, ⟨fun b o h hb => pr b o (p.ev.pres b o h hb) (ng b o h hb) (nf b o h hb), fun b h => p.ev.dom b (dm b h), fun b z => ?_, fun b h hb => ?_, fun i b hb => ?_, fun _ z => nomatch z⟩, pin⟩
      · rcases gr b z with z | z
        · exact p.ev.grow b z
        · exact .inr (p.ev.dom b z)
      · obtain ⟨xs, h0⟩ := e.hot b h
        exact kp b (p.ev.keep b h hb) (ng b _ h0 hb) (nf b _ h0 hb)
      · rcases en i b hb with ⟨j, z⟩ | z | z
        · exact p.ev.env j b z
        · exact p.ev.res b z
        · exact .inr (p.ev.dom b z)
/-- a name -/
def tgV (i : Nat) : Vl → Ev → Option Ev := fun x r => if i < r.length then some (r.set i (some x)) else none
theorem tg_name {K : PySem.W.Frag} {i : Nat} (hio : io = true → i ≠ 0) : TgOk K io (gName i) (tgV i) := fun r σ G M H v x m F r' Q e rp nd hot ht k => by
  simp only [tgV] at ht
  split at ht
  · rename_i hi
    cases ht
    have hi' : i < σ.length := by rw [← e.len]; exact hi
    refine k _ H M _ (e.put rp nd hot hi') (fun _ _ h _ _ => h) (fun _ h => h) (fun _ h => .inl h) (fun _ h _ _ => h) (fun j b hb => ?_) fun z => ?_
    · by_cases q : j = i
      · simp only [if_pos q] at hb; exact .inr (.inl hb)
      · simp only [if_neg q] at hb; exact .inl ⟨j, hb⟩
    · rw [List.getElem?_set_ne (hio z)]
  · cases ht
theorem js_set {i : Nat} {x : Str} {e : Expr} {f : Ev → Ou Vl} {pos pos' : Pos} (hN : X.N.Nodup) (hi : X.N[i]? = some x) (hx : Loc X.env.scope x) (hio : io = true → i ≠ 0) (he : JE X cl W e f) (hs : swapsWith e (some (.Name x pos')) pos.line X.env = pure false := by rfl)
    (hf : X.fn x = true ∨ X.env.scope.names.lookup x = some .local := by first | exact .inl rfl | exact .inr rfl | assumption) : JS X cl W io (.Assign [.Name x pos'] e pos) (sAsg f (tgV i)) := fun tk =>
  (ps_set hN hi hx (he tk) hs hf).yimp fun _ _ _ q => asg_go (tg_name hio) q
theorem js_asg {tg e : Expr} {g : TG} {f : Ev → Ou Vl} {t : Vl → Ev → Option Ev} {pos : Pos} (hg : PG X tg g) (ht : TgOk X.K io g t) (he : JE X cl W e f) (hs : swapsWithSole [tg] e pos.line X.env = pure false := by rfl) (hw : swappedStores [tg] e X.env = pure none := by rfl)
    (h1 : (assignEach [tg] X.env).map (·.2) = [assign tg X.env] := by rfl) : JS X cl W io (.Assign [tg] e pos) (sAsg f t) := fun tk =>
  (ps_asg (he tk) hg hs hw h1).yimp fun _ _ _ q => asg_go ht q
end
end Y
/-! Y, part F: tuple targets, loops, comprehensions. -/
namespace Y
open PySem L2
section
variable {K : PySem.W.Frag} {cl : Str → Addr} {W : WX} {io : Bool} {M M' M0 : Addr → Prop} {H H' H0 : Hp} {G G' G0 : Nat → List Addr} {r r' : Ev} {σ σ0 : L2.St} {D : Ends}
/-! ### tuples of targets -/
def tgs : List (Vl → Ev → Option Ev) → List Dt → Ev → Option Ev
  | [], [], r => some r
  | t :: ts, x :: xs, r => (t (x, .c) r).bind (tgs ts xs)
  | _, _, _ => none
def tgT (ts : List (Vl → Ev → Option Ev)) : Vl → Ev → Option Ev := fun x r => match x.1 with
  | .t xs => tgs ts xs r
  | .l xs => tgs ts xs r
  | .z xs => tgs ts xs r
  | _ => none
/-- a tuple or a list of that length -/
def gTupA (K : PySem.W.Frag) (n : Nat) (t : TGs) : TG := fun v σ H Q => gTup K n t v σ H Q ∨ gUnl K n t v σ H Q
theorem pg_tupA {X : Cx} {pos : Pos} {es : List Expr} {k : Nat} {t : TGs} {n : Nat} (hc : X.calm = true) (h : PGs X es t) (hn : (assignEach es X.env).length = n := by rfl) (hst : (assignEach es X.env).findIdx? (·.1) = none := by rfl) : PG X (.Tuple es k pos) (gTupA X.K n t) :=
  ⟨fun pins s σ H v u Q I r hw => hw.elim (fun hw => (pg_tup hc h hn hst).run pins s σ H v u Q I r hw) fun hw => (pg_unl hc h hn hst).run pins s σ H v u Q I r hw⟩
inductive TgsOk (K : PySem.W.Frag) (io : Bool) : TGs → List (Vl → Ev → Option Ev) → Prop
  | nil : TgsOk K io gNil []
  | cons {g : TG} {gs : TGs} {t : Vl → Ev → Option Ev} {ts : List (Vl → Ev → Option Ev)} : TgOk K io g t → TgsOk K io gs ts → TgsOk K io (gCons g gs) (t :: ts)
/-- the plain part of what a target leaves -/
structure Tx (K : PySem.W.Frag) (io : Bool) (r' : Ev) (σ σ' : L2.St) (H : Hp) (M : Addr → Prop) (G : Nat → List Addr) (H' : Hp) (M' : Addr → Prop) (G' : Nat → List Addr) : Prop where
  er : ER K r' σ' G' M' H'
  pres : ∀ b o, H b = some o → (∀ i, b ∉ G i) → H' b = some o
  dom : ∀ b, H' b = none → H b = none
  grow : ∀ b, M' b → M b ∨ H b = none
  keep : ∀ b, M b → (∀ i, b ∉ G i) → M' b
  env : ∀ i b, b ∈ G' i → (∃ j, b ∈ G j) ∨ H b = none
  pin : io = true → σ'[0]? = σ[0]?
theorem Tx.evo {σ' : L2.St} (t : Tx K io r' σ σ' H M G H' M' G') : Evo H M G H' M' G' [] := ⟨t.pres, t.dom, t.grow, t.keep, t.env, fun _ z => nomatch z⟩
theorem TgOk.cold {g : TG} {t : Vl → Ev → Option Ev} (h : TgOk K io g t) {v : V} {x : Dt} {Q : L2.St → Hp → Prop} (e : ER K r σ G M H) (c : Co K M H v x) (ht : t (x, .c) r = some r')
    (k : ∀ σ' H' M' G', Tx K io r' σ σ' H M G H' M' G' → Q σ' H') : g v σ H Q :=
  h r σ G M H v x .c [] r' Q e ⟨c, rfl⟩ List.nodup_nil (fun _ z => nomatch z) ht fun σ' H' M' G' e' p d gr kp en pin => k σ' H' M' G' ⟨e', fun b o h1 h2 => p b o h1 h2 (by simp), d, gr, fun b h1 h2 => kp b h1 h2 (by simp), fun i b hb => (en i b hb).imp id fun z => z.elim (fun z => nomatch z) id, pin⟩
theorem TgsOk.run {gs : TGs} {ts : List (Vl → Ev → Option Ev)} (h : TgsOk K io gs ts) : ∀ {r r' : Ev} {σ : L2.St} {G : Nat → List Addr} {M : Addr → Prop} {H : Hp} {vs : List V} {xs : List Dt} {Q : L2.St → Hp → Prop}, ER K r σ G M H → CoL K M H vs xs → tgs ts xs r = some r' →
    (∀ σ' H' M' G', Tx K io r' σ σ' H M G H' M' G' → Q σ' H') → gs vs σ H Q := by
  induction h with
  | nil =>
    intro r r' σ G M H vs xs Q e c ht k
    cases c with
    | nil =>
      simp only [tgs] at ht
      cases ht
      exact ⟨rfl, k σ H M G ⟨e, fun _ _ h _ => h, fun _ h => h, fun _ h => .inl h, fun _ h _ => h, fun i b h => .inl ⟨i, h⟩, fun _ => rfl⟩⟩
    | cons _ _ => simp [tgs] at ht
  | @cons g gs t ts h1 _ ih =>
    intro r r' σ G M H vs xs Q e c ht k
    cases c with
    | nil => simp [tgs] at ht
    | @cons v vs x xs c cs =>
      simp only [tgs, Option.bind_eq_some_iff] at ht
      obtain ⟨r1, ht1, ht2⟩ := ht
      refine ⟨v, vs, rfl, h1.cold e c ht1 fun σ1 H1 M1 G1 t1 => ?_⟩
      refine ih t1.er (cs.fm (e.fm t1.evo)) ht2 fun σ2 H2 M2 G2 t2 => k σ2 H2 M2 G2 ?_
      have v := t1.evo.trans e.hot t2.evo
      exact ⟨t2.er, v.pres, v.dom, v.grow, v.keep, v.env, fun i => (t2.pin i).trans (t1.pin i)⟩
theorem tg_tup {gs : TGs} {ts : List (Vl → Ev → Option Ev)} {n : Nat} (h : TgsOk K io gs ts) (hn : ts.length = n) : TgOk K io (gTupA K n gs) (tgT ts) := fun r σ G M H v x m F r' Q e rp nd hot ht k => by
  have e2 : ER K r σ G (fun b => M b ∧ b ∉ F) H := e.lessM (fun b z => z.1) fun i b hb => ⟨e.sub i b hb, fun z => (hot b z).2 i hb⟩
  have c : Co K (fun b => M b ∧ b ∉ F) H v x := rp.cold e.hot (fun b hb z => z.2 hb) fun b z => z.1
  have hl : ∀ (ts : List (Vl → Ev → Option Ev)) (xs : List Dt) (r : Ev) {r'}, tgs ts xs r = some r' → xs.length = ts.length := by
    intro ts
    induction ts with
    | nil =>
      intro xs r r' h
      cases xs with
      | nil => rfl
      | cons => simp [tgs] at h
    | cons t ts ih =>
      intro xs r r' h
      cases xs with
      | nil => simp [tgs] at h
      | cons x xs =>
        simp only [tgs, Option.bind_eq_some_iff] at h
        obtain ⟨r1, _, h2⟩ := h
        simp [ih xs r1 h2]
  have fin : ∀ {vs : List V} {xs : List Dt}, CoL K (fun b => M b ∧ b ∉ F) H vs xs → tgs ts xs r = some r' → vs.length = n ∧ gs vs σ H Q := fun {vs xs} cs ht =>
    ⟨by rw [cs.len, hl ts xs r ht, hn], h.run e2 cs ht fun σ' H' M' G' t => k σ' H' M' G' t.er (fun b o h1 h2 _ => t.pres b o h1 h2) t.dom (fun b z => (t.grow b z).imp And.left id) (fun b h1 h2 h3 => t.keep b ⟨h1, h3⟩ h2) (fun i b hb => (t.env i b hb).imp id .inr) t.pin⟩
  cases c with
  | @t a vs xs hs cs => exact .inl ⟨a, vs, rfl, hs, fin cs ht⟩
  | @l a vs xs hs _ cs => exact .inr ⟨a, vs, rfl, .inl (.inl hs), fin cs ht⟩
  | @z a vs xs hs cs => exact .inr ⟨a, vs, rfl, hs.sq, fin cs ht⟩
  | _ => simp [tgT] at ht
/-! ### sources of loops -/
/-- turns over items -/
structure SrcOk (K : PySem.W.Frag) (J : It) (M : Addr → Prop) (H : Hp) (xs : List Dt) : Prop where
  go : ∀ i M1 H1, i < xs.length → Fm M H M1 H1 → J.go i H1
  stop : ∀ M1 H1, Fm M H M1 H1 → J.stop xs.length H1
  yld : ∀ i x v M1 H1 H2, xs[i]? = some x → Fm M H M1 H1 → Hotty M1 H1 → J.yld i H1 v H2 → (∀ b o, H1 b = some o → H2 b = some o) ∧ Co K M1 H2 v x
def tII (K : PySem.W.Frag) (cl : Str → Addr) (W : WX) (s : Ev → Ou (List Dt)) : TI := fun σ H R => ∃ r M G, ER K r σ G M H ∧
  match s r with
  | .ok xs r' => ∀ J H' M' G', ER K r' σ G' M' H' → Evo H M G H' M' G' [] → SrcOk K J M' H' xs → R J H'
  | .ex c fs r' => ∀ d H' M' G', XX K r' σ H M G fs d H' M' G' → W (.ref (cl c)) d σ H'
  | .no => False
theorem Fm.trans {M2 : Addr → Prop} {H2 : Hp} (dom : ∀ b, H' b = none → H b = none) (a : Fm M H M' H') (c : Fm M' H' M2 H2) : Fm M H M2 H2 :=
  ⟨fun b o e hn => c.keep b o (a.keep b o e hn) fun z => (a.grow b z).elim hn fun q => (by rw [e] at q; cases q), fun b z => (c.grow b z).elim (a.grow b) fun q => .inr (dom b q), a.hot⟩
/-- the heap grows by what is new -/
theorem ER.grown (e : ER K r σ G M H) (h : ∀ b o, H b = some o → H' b = some o) : ER K r σ G M H' ∧ Evo H M G H' M G [] := by
  have dm : ∀ b, H' b = none → H b = none := fun b q => by
    cases z : H b with
    | none => rfl
    | some o =>
      rw [h b o z] at q
      cases q
  exact ⟨e.evoF (fun b o q _ => h b o q) (fun b z => .inl z) (fun i b hb => e.sub i b hb) fun b z => let ⟨xs, q⟩ := e.hot b z; ⟨xs, h b _ q⟩, ⟨fun b o q _ => h b o q, dm, fun b z => .inl z, fun b z _ => z, fun i b hb => .inl ⟨i, hb⟩, fun _ z => nomatch z⟩⟩
/-! ### for -/
def forL (t : Vl → Ev → Option Ev) (body : Ev → So) : List Dt → Ev → So
  | [], r => .nx r
  | x :: xs, r => match t (x, .c) r with
    | none => .no
    | some r1 => match body r1 with
      | .nx r2 => forL t body xs r2
      | .ct r2 => forL t body xs r2
      | .bk r2 => .nx r2
      | .rt x r2 => .rt x r2
      | .ex c fs r2 => .ex c fs r2
      | .no => .no
def sFor (s : Ev → Ou (List Dt)) (t : Vl → Ev → Option Ev) (body : Ev → So) : Ev → So := fun r => match s r with
  | .ok xs r1 => forL t body xs r1
  | .ex c fs r1 => .ex c fs r1
  | .no => .no
theorem tIS_for {s : Ev → Ou (List Dt)} {t : Vl → Ev → Option Ev} {body : Ev → So} {g : TG} (ht : TgOk K io g t) (h : tIS K cl W io (sFor s t body) D σ H) : tFor (tII K cl W s) g (tIS K cl W io body) D σ H := by
  obtain ⟨r, M, G, e, h⟩ := h
  refine ⟨r, M, G, e, ?_⟩
  simp only [sFor] at h
  cases hs : s r with
  | no => rw [hs] at h; exact h
  | ex c fs r' => rw [hs] at h; exact fun d H' M' G' p => h d σ H' M' G' ⟨p, fun _ => rfl⟩
  | ok xs r1 =>
    rw [hs] at h
    simp only at h
    intro J H1 M1 G1 e1 v1 so
    refine ⟨fun i m σ' H' => m = xs.length - i ∧ i ≤ xs.length ∧ ∃ r' M' G', ER K r' σ' G' M' H' ∧ Evo H1 M1 G1 H' M' G' [] ∧ (io = true → σ'[0]? = σ[0]?) ∧ sEnd K cl W io D σ H M G (forL t body (xs.drop i) r'),
      ⟨xs.length, by simp, Nat.zero_le _, r1, M1, G1, e1, .refl, fun _ => rfl, by simpa using h⟩, ?_⟩
    rintro i m σ' H' ⟨rfl, hi, r', M', G', e', v', pin', h'⟩
    have f' := e1.fm v'
    by_cases hlt : i < xs.length
    · refine .inr ⟨so.go i M' H' hlt f', _, fun σ2 H2 q => ⟨xs.length - (i + 1), by omega, rfl, hlt, q⟩, fun v H2 y => ?_⟩
      have hx : xs[i]? = some xs[i] := by simp [hlt]
      obtain ⟨hg, c⟩ := so.yld i xs[i] v M' H' H2 hx f' e'.hot y
      obtain ⟨e2, v2⟩ := e'.grown hg
      rw [List.drop_eq_getElem_cons hlt] at h'
      simp only [forL] at h'
      cases hk : t (xs[i], .c) r' with
      | none => rw [hk] at h'; exact h'.elim
      | some r3 =>
        rw [hk] at h'
        simp only at h'
        refine ht.cold e2 c hk fun σ3 H3 M3 G3 t3 => ⟨r3, M3, G3, t3.er, ?_⟩
        have v3 : Evo H1 M1 G1 H3 M3 G3 [] := (v'.trans e1.hot v2).trans e1.hot t3.evo
        have vv : Evo H M G H3 M3 G3 [] := v1.trans e.hot v3
        have pin3 : io = true → σ3[0]? = σ[0]? := fun z => (t3.pin z).trans (pin' z)
        cases hb : body r3 with
        | nx r4 =>
          rw [hb] at h'
          exact fun σ4 H4 M4 G4 p => ⟨r4, M4, G4, p.er, v3.trans e1.hot p.ev, fun z => (p.pin z).trans (pin3 z), h'⟩
        | ct r4 =>
          rw [hb] at h'
          exact fun σ4 H4 M4 G4 p => ⟨r4, M4, G4, p.er, v3.trans e1.hot p.ev, fun z => (p.pin z).trans (pin3 z), h'⟩
        | bk r4 =>
          rw [hb] at h'
          exact fun σ4 H4 M4 G4 p => h' σ4 H4 M4 G4 ⟨p.er, vv.trans e.hot p.ev, fun z => (p.pin z).trans (pin3 z)⟩
        | rt xm r4 =>
          rw [hb] at h'
          exact sEnd.back (D := D) e.hot vv pin3 (o := .rt xm r4) h'
        | ex c fs r4 =>
          rw [hb] at h'
          exact sEnd.back (D := D) e.hot vv pin3 (o := .ex c fs r4) h'
        | no => rw [hb] at h'; exact h'
    · have he : i = xs.length := by omega
      subst he
      rw [List.drop_length] at h'
      exact .inl ⟨so.stop M' H' f', h' σ' H' M' G' ⟨e', v1.trans e.hot v', pin'⟩⟩
/-! ### while -/
def whN (c : Ev → Ou Bool) (body : Ev → So) : Nat → Ev → So
  | 0, _ => .no
  | n + 1, r => match c r with
    | .ok false r1 => .nx r1
    | .ok true r1 => match body r1 with
      | .nx r2 => whN c body n r2
      | .ct r2 => whN c body n r2
      | .bk r2 => .nx r2
      | .rt x r2 => .rt x r2
      | .ex c fs r2 => .ex c fs r2
      | .no => .no
    | .ex c fs r1 => .ex c fs r1
    | .no => .no
def FUEL : Nat := 100000
def sWh (c : Ev → Ou Bool) (body : Ev → So) : Ev → So := fun r => whN c body FUEL r
theorem tIS_wh {c : Ev → Ou Bool} {body : Ev → So} (h : tIS K cl W io (sWh c body) D σ H) : tWhile (tIB K cl W c) (tIS K cl W io body) D σ H := by
  obtain ⟨r, M, G, e, h⟩ := h
  refine ⟨fun m σ' H' => ∃ r' M' G', ER K r' σ' G' M' H' ∧ Evo H M G H' M' G' [] ∧ (io = true → σ'[0]? = σ[0]?) ∧ sEnd K cl W io D σ H M G (whN c body m r'), ⟨FUEL, r, M, G, e, .refl, fun _ => rfl, h⟩, ?_⟩
  rintro m σ' H' ⟨r', M', G', e', v', pin', h'⟩
  refine ⟨r', M', G', e', ?_⟩
  cases m with
  | zero => exact h'.elim
  | succ m =>
    simp only [whN] at h'
    cases hc : c r' with
    | no => rw [hc] at h'; exact h'
    | ex c fs r2 =>
      rw [hc] at h'
      exact fun d H2 M2 G2 p => h' d σ' H2 M2 G2 ⟨⟨p.er, v'.trans e.hot p.ev, p.xd⟩, pin'⟩
    | ok k r2 =>
      rw [hc] at h'
      intro H2 M2 G2 e2 v2
      have v3 := v'.trans e.hot v2
      cases k with
      | false =>
        rw [if_neg Bool.false_ne_true]
        exact h' σ' H2 M2 G2 ⟨e2, v3, pin'⟩
      | true =>
        rw [if_pos rfl]
        refine ⟨_, fun σ4 H4 q => ⟨m, Nat.lt_succ_self _, q⟩, r2, M2, G2, e2, ?_⟩
        simp only at h'
        cases hb : body r2 with
        | nx r4 =>
          rw [hb] at h'
          exact fun σ4 H4 M4 G4 p => ⟨r4, M4, G4, p.er, v3.trans e.hot p.ev, fun z => (p.pin z).trans (pin' z), h'⟩
        | ct r4 =>
          rw [hb] at h'
          exact fun σ4 H4 M4 G4 p => ⟨r4, M4, G4, p.er, v3.trans e.hot p.ev, fun z => (p.pin z).trans (pin' z), h'⟩
        | bk r4 =>
          rw [hb] at h'
          exact fun σ4 H4 M4 G4 p => h' σ4 H4 M4 G4 ⟨p.er, v3.trans e.hot p.ev, fun z => (p.pin z).trans (pin' z)⟩
        | rt xm r4 =>
          rw [hb] at h'
          exact sEnd.back (D := D) e.hot v3 pin' (o := .rt xm r4) h'
        | ex c fs r4 =>
          rw [hb] at h'
          exact sEnd.back (D := D) e.hot v3 pin' (o := .ex c fs r4) h'
        | no => rw [hb] at h'; exact h'
end
section
variable {X : Cx} {cl : Str → Addr} {W : WX} {io : Bool}
theorem tgs_nil {K : PySem.W.Frag} : TgsOk K io gNil [] := .nil
theorem tgs_c {K : PySem.W.Frag} {g : TG} {gs : TGs} {t : Vl → Ev → Option Ev} {ts : List (Vl → Ev → Option Ev)} (h : TgOk K io g t) (q : TgsOk K io gs ts) : TgsOk K io (gCons g gs) (t :: ts) := .cons h q
def JI (X : Cx) (cl : Str → Addr) (W : WX) (tg iter : Expr) (s : Ev → Ou (List Dt)) : Prop := Takes X W → PI X tg iter (tII X.K cl W s)
theorem _root_.L2.PI.yimp {X : Cx} {tg e : Expr} {t t' : TI} (h : PI X tg e t) (k : ∀ σ H R, t' σ H R → t σ H R) : PI X tg e t' := ⟨fun pins s σ H R I q => h.run pins s σ H R I (k σ H R q)⟩
theorem js_for {tg iter : Expr} {body : List Stmt} {s : Ev → Ou (List Dt)} {g : TG} {t : Vl → Ev → Option Ev} {f : Ev → So} {pos : Pos} (hp : PassesOwn (model X.prog X.w) X.A X.env X.xe) (hc : X.calm = true) (hi : JI X cl W tg iter s) (hg : PG X tg g) (ht : TgOk X.K io g t) (hb : JB X cl W io body f)
    (hs : ∀ x, foldedSetIterable iter X.env x = pure x := by intro _; rfl) : JS X cl W io (.For tg iter body [] pos) (sFor s t f) := fun tk => (ps_for hp hc (hi tk) hg (hb tk) hs).yimp fun _ _ _ q => tIS_for ht q
theorem js_while {c : Expr} {body : List Stmt} {fc : Ev → Ou Bool} {f : Ev → So} {pos : Pos} (hp : PassesOwn (model X.prog X.w) X.A X.env X.xe) (hc : JT X cl W c fc) (hb : JB X cl W io body f) : JS X cl W io (.While c body [] pos) (sWh fc f) := fun tk =>
  (ps_while hp (hc tk) (hb tk)).yimp fun _ _ _ q => tIS_wh q
end
end Y
/-! Y, part G: comprehensions, values held one beside the other, a def's body. -/
namespace Y
open PySem L2
section
variable {K : PySem.W.Frag} {cl : Str → Addr} {W : WX} {io : Bool} {M M' M0 : Addr → Prop} {H H' H0 : Hp} {G G' G0 : Nat → List Addr} {r r' : Ev} {σ σ0 : L2.St} {D : Ends}
/-! ### own names of a block -/
def wipeE (r : Ev) : List Nat → Ev
  | [] => r
  | v :: vs => (wipeE r vs).set v none
theorem wipeE_at : ∀ {vs : List Nat} {i : Nat} {x : Vl}, (wipeE r vs)[i]? = some (some x) → r[i]? = some (some x) ∧ i ∉ vs
  | [], _, _, h => ⟨h, by simp⟩
  | v :: vs, i, x, h => by
    simp only [wipeE] at h
    by_cases q : v = i
    · subst q
      by_cases hl : v < (wipeE r vs).length
      · rw [List.getElem?_set_self hl] at h; cases h
      · rw [List.getElem?_eq_none (by simpa using hl)] at h; cases h
    · rw [List.getElem?_set_ne q] at h
      obtain ⟨h1, h2⟩ := wipeE_at h
      exact ⟨h1, by simp only [List.mem_cons, not_or]; exact ⟨fun z => q z.symm, h2⟩⟩
theorem wipeE_len : ∀ (vs : List Nat), (wipeE r vs).length = r.length
  | [] => rfl
  | v :: vs => by simp [wipeE, wipeE_len vs]
/-- the same, where slots that hold nothing are told otherwise -/
theorem ER.slots {σ' : L2.St} (e : ER K r σ G M H) (hl : σ'.length = σ.length) (h : ∀ (i : Nat) (x : Vl) (v : V), r[i]? = some (some x) → σ[i]? = some (some v) → σ'[i]? = some (some v)) : ER K r σ' G M H :=
  ⟨e.len.trans hl.symm, fun i x m q => let ⟨v, h1, h2⟩ := e.at_ i x m q; ⟨v, h i _ v q h1, h2⟩, e.emp, e.nd, e.dj, e.sub, e.hot⟩
theorem ER.drops (e : ER K r σ G M H) : ∀ (vs : List Nat), ER K (wipeE r vs) σ (fun i => if i ∈ vs then [] else G i) M H
  | [] => by simpa [wipeE] using e
  | v :: vs => by
    have e2 := (ER.drops e vs).drop v
    have g : (fun j => if j = v then ([] : List Addr) else if j ∈ vs then [] else G j) = fun i => if i ∈ v :: vs then [] else G i := by
      funext j
      by_cases q : j = v
      · simp [q]
      · by_cases q2 : j ∈ vs <;> simp [q, q2]
    rw [g] at e2
    exact e2
theorem ER.wipe (e : ER K r σ G M H) (vs : List Nat) : ER K (wipeE r vs) (wipe σ vs) (fun i => if i ∈ vs then [] else G i) M H :=
  (e.drops vs).slots (wipe_length σ vs) fun i x v h1 h2 => by
    obtain ⟨_, q⟩ := wipeE_at h1
    rw [wipe_out q]; exact h2
theorem evo_drops (vs : List Nat) : Evo H M G H M (fun i => if i ∈ vs then [] else G i) [] :=
  ⟨fun _ _ h _ => h, fun _ h => h, fun _ h => .inl h, fun _ h _ => h, fun i b hb => .inl ⟨i, by
    by_cases q : i ∈ vs
    · simp [q] at hb
    · simpa [q] using hb⟩, fun _ z => nomatch z⟩
/-- behind the block: what its own names meant outside, where nobody owned it -/
def rsE (r0 : Ev) : List Nat → Ev → Ev
  | [], r => r
  | v :: vs, r => match r0[v]? with
    | some (some (x, m)) => if x.flat || m == .c then (rsE r0 vs r).set v (some (x, .c)) else rsE r0 vs r
    | _ => rsE r0 vs r
theorem ER.restore {M2 : Addr → Prop} {H2 : Hp} {G2 : Nat → List Addr} (e0 : ER K r' σ G' M' H') (f : Fm M' H' M2 H2) : ∀ (vs : List Nat) {r : Ev}, (∀ v ∈ vs, ∀ x, r[v]? ≠ some (some x)) → ER K r σ G2 M2 H2 → ER K (rsE r' vs r) σ G2 M2 H2
  | [], r, _, e => e
  | v :: vs, r, hn, e => by
    have ih := ER.restore (G2 := G2) e0 f vs (fun u hu => hn u (List.mem_cons_of_mem _ hu)) e
    simp only [rsE]
    cases h0 : r'[v]? with
    | none => exact ih
    | some o =>
      cases o with
      | none => exact ih
      | some xm =>
        obtain ⟨x, m⟩ := xm
        simp only
        by_cases hx : (x.flat || m == .c) = true
        · rw [if_pos hx]
          obtain ⟨w, hw, rp⟩ := e0.at_ v x m h0
          have c : Co K M' H' w x := by
            rw [Bool.or_eq_true] at hx
            rcases hx with hx | hx
            · have := rp.flatAny (M' := M') hx
              cases m with
              | c => exact this.1
              | t => obtain ⟨a, us, xs, rfl, rfl, _⟩ := this; simp [Dt.flat] at hx
              | a => exact Ho.cold this (by rw [Ho.flatE this hx]; exact fun _ z => nomatch z)
            · have hx : m = .c := by simpa using hx
              subst hx
              exact rp.1
          have gv : G2 v = [] := e.emp v fun x m q => hn v List.mem_cons_self (x, m) q
          have e3 := ih.put (i := v) (v := w) (x := x) (m := .c) (F := []) ⟨c.fm f, rfl⟩ List.nodup_nil (fun _ z => nomatch z) (List.getElem?_eq_some_iff.mp hw).1
          rw [set_id hw] at e3
          have g : (fun j => if j = v then ([] : List Addr) else G2 j) = G2 := by
            funext j
            by_cases q : j = v
            · simp [q, gv]
            · simp [q]
          rw [g] at e3
          exact e3
        · rw [if_neg hx]; exact ih
/-! ### list comprehensions -/
/-- the tests: all of them | one -/
def lcL (vs : List Nat) (t : Vl → Ev → Option Ev) (c : Ev → Ou Bool) (f : Ev → Ou Vl) (own : Bool) : List Dt → Ev → List Dt → Ou (List Dt)
  | [], r, acc => .ok acc r
  | x :: xs, r, acc => match t (x, .c) r with
    | none => .no
    | some r1 => match c r1 with
      | .ok false r2 => lcL vs t c f own xs (wipeE r2 vs) acc
      | .ok true r2 => match f r2 with
        | .ok (y, m) r3 => if own && !zfl (y, m) then .no else lcL vs t c f own xs (wipeE r3 vs) (acc ++ [y])
        | _ => .no
      | _ => .no
def mLc (own : Bool) (vs : List Nat) (s : Ev → Ou (List Dt)) (t : Vl → Ev → Option Ev) (c : Ev → Ou Bool) (f : Ev → Ou Vl) : Ev → Ou Vl := fun r => match s r with
  | .ok xs r1 => if xs.length ≤ LIM then
      match lcL vs t c f own xs (wipeE r1 vs) [] with
      | .ok ys r2 => .ok (.l ys, if own then .a else .t) (rsE r1 vs r2)
      | _ => .no
    else .no
  | .ex c fs r1 => .ex c fs r1
  | .no => .no
theorem lcL_len {vs : List Nat} {t : Vl → Ev → Option Ev} {c : Ev → Ou Bool} {f : Ev → Ou Vl} {own : Bool} : ∀ (xs : List Dt) {r r' : Ev} {acc ys : List Dt}, lcL vs t c f own xs r acc = .ok ys r' → ys.length ≤ acc.length + xs.length
  | [], r, r', acc, ys, h => by simp [lcL] at h; simp [h.1]
  | x :: xs, r, r', acc, ys, h => by
    simp only [lcL] at h
    split at h
    · cases h
    · split at h
      · have := lcL_len xs h; simp; omega
      · split at h
        · split at h
          · cases h
          · have := lcL_len xs h; simp at this ⊢; omega
        · cases h
      · cases h
theorem HoL.snoc : ∀ {vs : List V} {xs : List Dt} {F F' : List Addr} {v : V} {x : Dt}, HoL K H vs xs F → Ho K H v x F' → HoL K H (vs ++ [v]) (xs ++ [x]) (F ++ F')
  | _, _, _, _, _, _, .nil, h => by
    have := HoL.cons h .nil
    rw [List.append_nil] at this
    exact this
  | _, _, _, _, _, _, .cons a b, h => by
    rw [List.append_assoc]
    exact .cons a (HoL.snoc b h)
theorem CoL.snoc : ∀ {vs : List V} {xs : List Dt} {v : V} {x : Dt}, CoL K M H vs xs → Co K M H v x → CoL K M H (vs ++ [v]) (xs ++ [x])
  | _, _, _, _, .nil, h => .cons h .nil
  | _, _, _, _, .cons a b, h => .cons a (CoL.snoc b h)
/-- the list that grows: of cold items | of owned ones -/
def Acc (K : PySem.W.Frag) (M : Addr → Prop) (H : Hp) (own : Bool) (p : Addr) (xs : List Dt) (F : List Addr) : Prop :=
  Rp K M H (if own then .a else .t) (.ref p) (.l xs) F ∧ p ∈ F
theorem Acc.at_ {own : Bool} {p : Addr} {xs : List Dt} {F : List Addr} (h : Acc K M H own p xs F) : ∃ vs F', H p = some (.lst vs) ∧ F = p :: F' ∧ vs.length = xs.length ∧ (own = true → HoL K H vs xs F') ∧ (own = false → CoL K M H vs xs ∧ F' = []) := by
  obtain ⟨h, hp⟩ := h
  cases own with
  | true =>
    have h : Ho K H (.ref p) (.l xs) F := h
    cases h with
    | @l a vs _ F e q =>
      have hl : ∀ {vs : List V} {xs : List Dt} {F : List Addr}, HoL K H vs xs F → vs.length = xs.length := fun h => by
        induction h using HoL.rec (motive_1 := fun _ _ _ _ => True) with
        | nil => rfl
        | cons _ _ _ ih => simp [ih]
        | _ => trivial
      exact ⟨vs, F, e, rfl, hl q, fun _ => q, fun z => nomatch z⟩
  | false =>
    obtain ⟨a, vs, ys, h1, h2, rfl, e, c⟩ := h
    cases h1
    cases h2
    exact ⟨vs, [], e, rfl, c.len, fun z => (nomatch z), fun _ => ⟨c, rfl⟩⟩
theorem wipe_at (σ : L2.St) : ∀ (vs : List Nat) (j : Nat), (wipe σ vs)[j]? = if j ∈ vs then (if j < σ.length then some none else none) else σ[j]?
  | [], j => by simp [wipe]
  | v :: vs, j => by
    show ((wipe σ vs).set v none)[j]? = _
    by_cases q : v = j
    · subst q
      by_cases hl : v < σ.length
      · rw [List.getElem?_set_self (by rw [wipe_length]; exact hl)]; simp [hl]
      · rw [List.getElem?_eq_none (by simp [wipe_length]; omega)]; simp [hl]
    · rw [List.getElem?_set_ne q, wipe_at σ vs j]
      have : j ≠ v := Ne.symm q
      simp [this]
theorem wipe_set {σ : L2.St} {i : Nat} {x : Option V} {vs : List Nat} (hi : i ∈ vs) : wipe (σ.set i x) vs = wipe σ vs := by
  apply List.ext_getElem?
  intro j
  rw [wipe_at, wipe_at]
  by_cases q : j ∈ vs
  · simp [q]
  · simp only [if_neg q]
    rw [List.getElem?_set_ne (fun z => q (by rw [← z]; exact hi))]
theorem wipe_wipe {σ : L2.St} {vs : List Nat} : wipe (wipe σ vs) vs = wipe σ vs := by
  apply List.ext_getElem?
  intro j
  rw [wipe_at, wipe_at]
  by_cases q : j ∈ vs
  · simp [q, wipe_length]
  · simp only [if_neg q]
/-- a target that stores to a block's own names alone -/
def TgW (g : TG) (vs : List Nat) : Prop := ∀ v σ H (Q Q' : L2.St → Hp → Prop), (∀ σ' H', wipe σ' vs = wipe σ vs → Q σ' H' → Q' σ' H') → g v σ H Q → g v σ H Q'
def TgsW (g : TGs) (vs : List Nat) : Prop := ∀ xs σ H (Q Q' : L2.St → Hp → Prop), (∀ σ' H', wipe σ' vs = wipe σ vs → Q σ' H' → Q' σ' H') → g xs σ H Q → g xs σ H Q'
theorem tw_name {i : Nat} {vs : List Nat} (hi : i ∈ vs) : TgW (gName i) vs := fun v σ H Q Q' h q => h _ _ (wipe_set hi) q
theorem tws_nil {vs : List Nat} : TgsW gNil vs := fun xs σ H Q Q' h q => ⟨q.1, h _ _ rfl q.2⟩
theorem tws_c {vs : List Nat} {g : TG} {gs : TGs} (h : TgW g vs) (q : TgsW gs vs) : TgsW (gCons g gs) vs := fun xs σ H Q Q' k ⟨v, r, e, z⟩ =>
  ⟨v, r, e, h v σ H _ _ (fun σ1 H1 e1 q1 => q r σ1 H1 _ _ (fun σ2 H2 e2 q2 => k σ2 H2 (e2.trans e1) q2) q1) z⟩
theorem tw_tup {vs : List Nat} {gs : TGs} {n : Nat} (q : TgsW gs vs) : TgW (gTupA K n gs) vs := fun v σ H Q Q' k z => z.imp (fun ⟨a, xs, h1, h2, h3, h4⟩ => ⟨a, xs, h1, h2, h3, q xs σ H Q Q' k h4⟩) fun ⟨a, xs, h1, h2, h3, h4⟩ => ⟨a, xs, h1, h2, h3, q xs σ H Q Q' k h4⟩
abbrev W0 : WX := fun _ _ _ _ => False
theorem PX.keeps {v : V} {x : Dt} {m : Md} {F : List Addr} {M1 : Addr → Prop} {H1 : Hp} {G1 : Nat → List Addr} {r2 : Ev} {σ2 : L2.St} (ht : Hotty M H) (p : PX K r σ H M G v x m H' M' G' F) {F2 : List Addr} (e2 : ER K r2 σ2 G1 M1 H1) (ev : Evo H' M' G' H1 M1 G1 F2) :
    PX K r2 σ2 H M G v x m H1 M1 G1 F ∧ ∀ b ∈ F, b ∉ F2 := by
  obtain ⟨a, b, c⟩ := p.rp.evo p.hot p.er ev
  have v0 := p.ev
  have vt : Evo H M G H1 M1 G1 F := by
    have v1 : Evo H M G H' M' G' [] := ⟨v0.pres, v0.dom, v0.grow, v0.keep, v0.env, fun _ z => nomatch z⟩
    have v2 := v1.trans ht ev
    exact ⟨v2.pres, v2.dom, v2.grow, v2.keep, v2.env, v0.res⟩
  exact ⟨⟨e2, vt, a, p.nd, b⟩, c⟩
theorem mLc_ok {own : Bool} {vs : List Nat} {s : Ev → Ou (List Dt)} {t : Vl → Ev → Option Ev} {c : Ev → Ou Bool} {f : Ev → Ou Vl} {g : TG} {Q : VK} (hg : TgOk K false g t) (hw : TgW g vs) (h : tI K cl W (mLc own vs s t c f) σ H Q) :
    tLc (tII K cl W s) g (tIB K cl W0 c) (tI K cl W0 f) vs σ H Q := by
  obtain ⟨r, M, G, e, h⟩ := h
  refine ⟨r, M, G, e, ?_⟩
  simp only [mLc] at h
  cases hs : s r with
  | no => rw [hs] at h; exact h
  | ex c fs r' => rw [hs] at h; exact h
  | ok xs r1 =>
    rw [hs] at h
    simp only at h
    by_cases hz : xs.length ≤ LIM
    case neg => rw [if_neg hz] at h; exact fun _ _ _ _ _ _ _ => h.elim
    rw [if_pos hz] at h
    cases hL : lcL vs t c f own xs (wipeE r1 vs) [] with
    | no => rw [hL] at h; exact fun _ _ _ _ _ _ _ => h.elim
    | ex c fs r' => rw [hL] at h; exact fun _ _ _ _ _ _ _ => h.elim
    | ok ys r2 =>
    rw [hL] at h
    simp only at h
    intro J H1 M1 G1 e1 v1 so D hD
    have ew := e1.wipe vs
    have vw : Evo H1 M1 G1 H1 M1 (fun i => if i ∈ vs then [] else G1 i) [] := evo_drops vs
    refine ⟨fun i m H' => m = xs.length - i ∧ i ≤ xs.length ∧ ∃ r' M' G' acc F, PX K r' (wipe σ vs) H1 M1 G1 (.ref D) (.l acc) (if own then .a else .t) H' M' G' F ∧ acc.length ≤ i ∧ (∀ j ∈ vs, ∀ x, r'[j]? ≠ some (some x)) ∧ lcL vs t c f own (xs.drop i) r' acc = .ok ys r2, ⟨xs.length, by simp, Nat.zero_le _, ?_⟩, ?_⟩
    · -- the start
      have p0 : Mk K H1 M1 (.ref D) (.l []) (if own then .a else .t) (upd H1 D (.lst [])) [D] := by
        have q := mk_lst (K := K) ew.hot hD .nil
        refine ⟨q.same, q.new, q.nd, ?_⟩
        cases own with
        | true => exact Ho.l upd_same .nil
        | false => exact q.rp
      obtain ⟨e', v', nM⟩ := p0.env ew
      exact ⟨_, _, _, [], [D], ⟨e', vw.trans e1.hot v', p0.rp, p0.nd, fun b hb => ⟨.inr hb, fun i hi => nM b hb (ew.sub i b hi)⟩⟩, Nat.le_refl _, fun j hj x q => (wipeE_at q).2 hj, by simpa using hL⟩
    · rintro i m H' ⟨rfl, hi, r', M', G', acc, F, p, hacc, hn, hl⟩
      have f' := e1.fm p.ev
      by_cases hlt : i < xs.length
      case neg =>
        have he : i = xs.length := by omega
        subst he
        rw [List.drop_length] at hl
        simp only [lcL, Ou.ok.injEq] at hl
        obtain ⟨rfl, rfl⟩ := hl
        refine .inl ⟨so.stop M' H' f', h _ H' M' G' F ⟨?_, ?_, p.rp, p.nd, p.hot⟩⟩
        · refine ER.restore e1 f' vs hn (p.er.slots (wipe_length σ vs).symm fun j x v h1 h2 => ?_)
          rw [wipe_at] at h2
          by_cases q : j ∈ vs
          · exact absurd h1 (hn j q x)
          · simpa [q] using h2
        · have := v1.trans e.hot p.ev
          exact this
      refine .inr ⟨so.go i M' H' hlt f', _, fun H2 q => ⟨xs.length - (i + 1), by omega, rfl, hlt, q⟩, fun v H2 y => ?_⟩
      have hx : xs[i]? = some xs[i] := by simp [hlt]
      obtain ⟨hgr, co⟩ := so.yld i xs[i] v M' H' H2 hx f' p.er.hot y
      obtain ⟨e2, v2⟩ := p.er.grown hgr
      obtain ⟨p2, _⟩ := p.keeps e1.hot e2 v2
      rw [List.drop_eq_getElem_cons hlt] at hl
      simp only [lcL] at hl
      cases hk : t (xs[i], .c) r' with
      | none => rw [hk] at hl; cases hl
      | some r3 =>
      rw [hk] at hl
      simp only at hl
      refine hw v (wipe σ vs) H2 (fun σ3 H3 => ∃ M3 G3, Tx K false r3 (wipe σ vs) σ3 H2 M' G' H3 M3 G3) _ (fun σ3 H3 we ⟨M3, G3, t3⟩ => ?_) (hg.cold e2 co hk fun σ3 H3 M3 G3 t3 => ⟨M3, G3, t3⟩)
      rw [wipe_wipe] at we
      refine ⟨we, r3, M3, G3, t3.er, ?_⟩
      obtain ⟨p3, _⟩ := p2.keeps e1.hot t3.er t3.evo
      cases hc : c r3 with
      | no => rw [hc] at hl; cases hl
      | ex c fs r4 => rw [hc] at hl; cases hl
      | ok k r4 =>
      rw [hc] at hl
      intro H4 M4 G4 e4 v4
      obtain ⟨p4, _⟩ := p3.keeps e1.hot e4 v4
      cases k with
      | false =>
        rw [if_neg Bool.false_ne_true]
        simp only at hl
        have e5 := e4.wipe vs
        rw [we] at e5
        obtain ⟨p5, _⟩ := p4.keeps e1.hot e5 (evo_drops vs)
        exact ⟨_, _, _, acc, F, p5, by omega, fun j hj x q => (wipeE_at q).2 hj, hl⟩
      | true =>
        rw [if_pos rfl]
        simp only at hl
        refine ⟨r4, M4, G4, e4, ?_⟩
        cases hf : f r4 with
        | no => rw [hf] at hl; cases hl
        | ex c fs r5 => rw [hf] at hl; cases hl
        | ok ym r5 =>
        obtain ⟨y, my⟩ := ym
        rw [hf] at hl
        simp only at hl
        intro w H5 M5 G5 F5 q5
        obtain ⟨p5, dis⟩ := p4.keeps e1.hot q5.er q5.ev
        have mem : D ∈ F := by
          cases own with
          | true =>
            have z : Ho K H5 (.ref D) (.l acc) F := p5.rp
            cases z with
            | l _ _ => exact List.mem_cons_self
          | false =>
            obtain ⟨a, us, zs, h1, _, h3, _⟩ := p5.rp
            cases h1
            rw [h3]
            exact List.mem_cons_self
        obtain ⟨us, F', hD5, hF, hul, ho1, ho2⟩ := Acc.at_ (own := own) ⟨p5.rp, mem⟩
        have hown : own = true → zfl (y, my) = true := fun z => by
          by_cases q : (own && !zfl (y, my)) = true
          · rw [if_pos q] at hl; cases hl
          · simp only [z, Bool.true_and, Bool.not_eq_true', Bool.not_eq_false] at q
            exact q
        have hl' : lcL vs t c f own (xs.drop (i + 1)) (wipeE r5 vs) (acc ++ [y]) = .ok ys r2 := by
          by_cases q : (own && !zfl (y, my)) = true
          · rw [if_pos q] at hl; cases hl
          · rw [if_neg q] at hl; exact hl
        refine ⟨us, hD5, by rw [hul]; exact Nat.lt_of_le_of_lt hacc (Nat.lt_of_lt_of_le hlt (lim_size hz)), wipeE r5 vs, fun b => M5 b ∧ (own = false → b ∉ F5), fun j => if j ∈ vs then [] else G5 j, acc ++ [y], F ++ (if own then F5 else []), ?_, by simp; omega, fun j hj x q => (wipeE_at q).2 hj, hl'⟩
        have hDM : M5 D ∧ ∀ j, D ∉ G5 j := p5.hot D mem
        have hDF : D ∉ F5 := dis D mem
        -- the list's cell changes: all else stays
        have stay : ∀ b o, H5 b = some o → b ≠ D → upd H5 D (.lst (us ++ [w])) b = some o := fun b o h q => by rw [upd_ne q]; exact h
        have ew5 := q5.er.wipe vs
        rw [we] at ew5
        have gsub : ∀ j b, b ∈ (fun j => if j ∈ vs then [] else G5 j) j → b ∈ G5 j := fun j b hb => by
          by_cases q : j ∈ vs
          · simp [q] at hb
          · simpa [q] using hb
        have fm6 : Fm M5 H5 (fun b => M5 b ∧ (own = false → b ∉ F5)) (upd H5 D (.lst (us ++ [w]))) := ⟨fun b o h hn => stay b o h fun z => hn (by rw [z]; exact hDM.1), fun b z => .inl z.1, q5.er.hot⟩
        have e6 : ER K (wipeE r5 vs) (wipe σ vs) (fun j => if j ∈ vs then [] else G5 j) (fun b => M5 b ∧ (own = false → b ∉ F5)) (upd H5 D (.lst (us ++ [w]))) :=
          ew5.evoF (fun b o h z => stay b o h fun q => by
            rcases z with z | ⟨j, z⟩
            · exact z (by rw [q]; exact hDM.1)
            · exact hDM.2 j (by rw [← q]; exact gsub j b z)) (fun b z => .inl z.1) (fun j b hb => ⟨q5.er.sub j b (gsub j b hb), fun _ z => (q5.hot b z).2 j (gsub j b hb)⟩) fun b z => by
            by_cases q : b = D
            · rw [q]; exact ⟨_, upd_same⟩
            · rw [upd_ne q]; exact q5.er.hot b z.1
        have tupS : ∀ b zs, Rd H5 b (.tup zs) → Rd (upd H5 D (.lst (us ++ [w]))) b (.tup zs) := fun b zs z => by
          have nb : b ≠ D := fun q => by
            rw [q] at z
            rcases z with z | ⟨o, z⟩ <;> (rw [hD5] at z; cases z)
          rcases z with z | ⟨o, z⟩
          · exact .inl (stay b _ z nb)
          · exact .inr ⟨o, stay b _ z nb⟩
        have v5 : Evo H1 M1 G1 H5 M5 G5 (F ++ F5) := by
          have v6 : Evo H1 M1 G1 H4 M4 G4 [] := ⟨p4.ev.pres, p4.ev.dom, p4.ev.grow, p4.ev.keep, p4.ev.env, fun _ z => nomatch z⟩
          have v7 := v6.trans e1.hot q5.ev
          exact ⟨v7.pres, v7.dom, v7.grow, v7.keep, v7.env, fun b hb => (List.mem_append.mp hb).elim (p5.ev.res b) (v7.res b)⟩
        have newD : H1 D = none := hD
        refine ⟨e6, ⟨fun b o h hb => stay b o (v5.pres b o h hb) fun q => (by rw [q, newD] at h; cases h), fun b h => ?_, fun b z => v5.grow b z.1, fun b h hb => ⟨v5.keep b h hb, fun _ z => ?_⟩, fun j b hb => v5.env j b (gsub j b hb), fun b hb => v5.res b ?_⟩, ?_, ?_, fun b hb => ?_⟩
        · by_cases q : b = D
          · rw [q, upd_same] at h; cases h
          · rw [upd_ne q] at h; exact v5.dom b h
        · rcases v5.res b (List.mem_append_right _ z) with ⟨j, q⟩ | q
          · exact hb j q
          · obtain ⟨zs, q2⟩ := e1.hot b h
            rw [q2] at q; cases q
        · rcases List.mem_append.mp hb with hb | hb
          · exact List.mem_append_left _ hb
          · cases own with
            | true => exact List.mem_append_right _ (by simpa using hb)
            | false => simp at hb
        · -- the grown list
          cases own with
          | true =>
            have hoy : Ho K H5 w y F5 := q5.rp.toA (hown rfl)
            have h6 := (ho1 rfl).snoc hoy
            show Ho K _ (.ref D) (.l (acc ++ [y])) _
            rw [hF]
            show Ho K _ (.ref D) (.l (acc ++ [y])) (D :: (F' ++ F5))
            refine .l upd_same (h6.stay tupS (fun b o u z => stay b _ z fun q => by rw [q, hD5] at z; cases z) fun b hb => upd_ne fun q => ?_)
            rw [q] at hb
            rcases List.mem_append.mp hb with hb | hb
            · have nd := p5.nd
              rw [hF] at nd
              exact (List.nodup_cons.mp nd).1 hb
            · exact hDF hb
          | false =>
            obtain ⟨c5, hF'⟩ := ho2 rfl
            have cw : Co K (fun b => M5 b ∧ (false = false → b ∉ F5)) H5 w y := q5.rp.cold q5.er.hot (fun b hb z => z.2 rfl hb) fun b z => z.1
            refine ⟨D, us ++ [w], acc ++ [y], rfl, rfl, by rw [hF, hF']; rfl, upd_same, (c5.fm fm6).snoc (cw.fm ⟨fun b o h hn => stay b o h fun q => hn (by rw [q]; exact ⟨hDM.1, fun _ => hDF⟩), fun b z => .inl z, fun b z => q5.er.hot b z.1⟩)⟩
        · cases own with
          | true =>
            simp only [if_true]
            refine List.nodup_append.mpr ⟨p5.nd, q5.nd, fun a ha b hb q => dis a ha (by rw [q]; exact hb)⟩
          | false => simpa using p5.nd
        · rcases List.mem_append.mp hb with hb | hb
          · exact ⟨⟨(p5.hot b hb).1, fun _ => dis b hb⟩, fun j hj => (p5.hot b hb).2 j (gsub j b hj)⟩
          · cases own with
            | true =>
              have hb : b ∈ F5 := by simpa using hb
              exact ⟨⟨(q5.hot b hb).1, fun z => nomatch z⟩, fun j hj => (q5.hot b hb).2 j (gsub j b hj)⟩
            | false => simp at hb
end
end Y
/-! Y, part H: comprehensions as expressions, values held, defs. -/
namespace Y
open PySem L2 PyProof.Rows
section
variable {X : Cx} {cl : Str → Addr} {W : WX} {io : Bool}
def mYes : Ev → Ou Bool := fun r => .ok true r
theorem _root_.L2.PTs.yimp {X : Cx} {e : List Expr} {t t' : TT} (h : PTs X e t) (k : ∀ σ H Q, t' σ H Q → t σ H Q) : PTs X e t' := ⟨fun pins s σ H Q I q => h.run pins s σ H Q I (k σ H Q q)⟩
theorem jts_nil : PTs X [] (tIB X.K cl W mYes) := pts_nil.yimp fun σ H Q ⟨r, M, G, e, q⟩ => q H M G e .refl
theorem jts_one {c : Expr} {f : Ev → Ou Bool} (h : JT X cl W0 c f) : PTs X [c] (tIB X.K cl W0 f) := pts_one (h takes0)
theorem je_lc {elt tg iter : Expr} {ifs : List Expr} {scope : Scope} {own : List (Str × Nat)} {pos : Pos} {s : Ev → Ou (List Dt)} {g : TG} {t : Vl → Ev → Option Ev} {c : Ev → Ou Bool} {f : Ev → Ou Vl} (b : Bool) (hc : X.calm = true) (hN : X.N.Nodup) (hi : JI X cl W tg iter s) (ok : BlkOk X.N X.env.scope scope own)
    (hg : ∀ (s : Shared) (H : Hp) (C : Addr) (cl : List (Str × Addr)) (fp : List Addr), PG (X.blk s H scope (compEnvC scope cl C X.env) fp) tg g) (hgt : TgOk X.K false g t) (hgw : TgW g (own.map (·.2)))
    (ht : ∀ (s : Shared) (H : Hp) (C : Addr) (cl2 : List (Str × Addr)) (fp : List Addr), PTs (X.blk s H scope (compEnvC scope cl2 C X.env) fp) ifs (tIB X.K cl W0 c))
    (he : ∀ (s : Shared) (H : Hp) (C : Addr) (cl2 : List (Str × Addr)) (fp : List Addr), JE (X.blk s H scope (compEnvC scope cl2 C X.env) fp) cl W0 elt f) (hs : ∀ x, foldedSetIterable iter X.env x = pure x := by intro _; rfl) :
    JE X cl W (.ListComp elt [⟨tg, iter, ifs, 0⟩] scope pos) (mLc b (own.map (·.2)) s t c f) := fun tk =>
  (pe_lc hc hN (hi tk) ok hg ht (fun s H C cl2 fp => he s H C cl2 fp takes0) hs).yimp fun σ H Q q => mLc_ok hgt hgw q
theorem js_setLc {elt tg iter : Expr} {ifs : List Expr} {scope : Scope} {own : List (Str × Nat)} {pos spos : Pos} {i : Nat} {y : Str} {py : Pos} {s : Ev → Ou (List Dt)} {g : TG} {t : Vl → Ev → Option Ev} {c : Ev → Ou Bool} {f : Ev → Ou Vl} (b : Bool) (hc : X.calm = true) (hN : X.N.Nodup) (hy : X.N[i]? = some y) (hyl : X.env.scope.names.lookup y = some .local)
    (hsw : swapsWith (.ListComp elt [⟨tg, iter, ifs, 0⟩] scope pos) (some (.Name y py)) spos.line X.env = pure true) (hio : io = true → i ≠ 0) (hi : JI X cl W tg iter s) (ok : BlkOk X.N X.env.scope scope own)
    (hg : ∀ (s : Shared) (H : Hp) (C : Addr) (cl : List (Str × Addr)) (fp : List Addr), PG (X.blk s H scope (compEnvC scope cl C X.env) fp) tg g) (hgt : TgOk X.K false g t) (hgw : TgW g (own.map (·.2)))
    (ht : ∀ (s : Shared) (H : Hp) (C : Addr) (cl2 : List (Str × Addr)) (fp : List Addr), PTs (X.blk s H scope (compEnvC scope cl2 C X.env) fp) ifs (tIB X.K cl W0 c))
    (he : ∀ (s : Shared) (H : Hp) (C : Addr) (cl2 : List (Str × Addr)) (fp : List Addr), JE (X.blk s H scope (compEnvC scope cl2 C X.env) fp) cl W0 elt f) (hs : ∀ x, foldedSetIterable iter X.env x = pure x := by intro _; rfl) :
    JS X cl W io (.Assign [.Name y py] (.ListComp elt [⟨tg, iter, ifs, 0⟩] scope pos) spos) (sAsg (mLc b (own.map (·.2)) s t c f) (tgV i)) := fun tk =>
  (ps_setLc hc hN hy hyl hsw (hi tk) ok hg ht (fun s H C cl2 fp => he s H C cl2 fp takes0) hs).yimp fun D σ H q => asg_go (g := gName i) (tg_name hio) q |> fun z => mLc_ok hgt hgw z
end
section
variable {K : PySem.W.Frag} {cl : Str → Addr} {W : WX} {io : Bool} {M M' M0 : Addr → Prop} {H H' H0 : Hp} {G G' G0 : Nat → List Addr} {r r' : Ev} {σ σ0 : L2.St} {D : Ends}
/-! ### several values held -/
def evH : List (Ev → Ou Vl) → Ev → Ou (List Vl)
  | [], r => .ok [] r
  | f :: fs, r => match f r with
    | .ok x r1 => match evH fs r1 with
      | .ok xs r2 => .ok (x :: xs) r2
      | .ex c fs r2 => .ex c fs r2
      | .no => .no
    | .ex c fs r1 => .ex c fs r1
    | .no => .no
inductive HL (K : PySem.W.Frag) (M : Addr → Prop) (H : Hp) : List V → List Vl → List Addr → Prop
  | nil : HL K M H [] [] []
  | cons {v : V} {vs : List V} {x : Dt} {m : Md} {xs : List Vl} {F F' : List Addr} : Rp K M H m v x F → HL K M H vs xs F' → HL K M H (v :: vs) ((x, m) :: xs) (F ++ F')
structure HX (K : PySem.W.Frag) (r' : Ev) (σ : L2.St) (H : Hp) (M : Addr → Prop) (G : Nat → List Addr) (vs : List V) (xs : List Vl) (H' : Hp) (M' : Addr → Prop) (G' : Nat → List Addr) (F : List Addr) : Prop where
  er : ER K r' σ G' M' H'
  ev : Evo H M G H' M' G' F
  hl : HL K M' H' vs xs F
  nd : F.Nodup
  hot : ∀ b ∈ F, M' b ∧ ∀ i, b ∉ G' i
theorem tOs_hold : ∀ (fs : List (Ev → Ou Vl)) {r : Ev} {M : Addr → Prop} {G : Nat → List Addr} {H : Hp} {k : List V → Hp → Prop}, ER K r σ G M H →
    (match evH fs r with
      | .ok xs r' => ∀ vs H' M' G' F, HX K r' σ H M G vs xs H' M' G' F → k vs H'
      | .ex c fs r' => ∀ d H' M' G', XX K r' σ H M G fs d H' M' G' → W (.ref (cl c)) d σ H'
      | .no => False) → tOs K cl W (fs.map .e) σ H k
  | [], r, M, G, H, k, e, h => h [] H M G [] ⟨e, .refl, .nil, List.nodup_nil, fun _ z => nomatch z⟩
  | f :: fs, r, M, G, H, k, e, h => by
    show tI K cl W f σ H _
    refine ⟨r, M, G, e, ?_⟩
    simp only [evH] at h
    cases hf : f r with
    | no => rw [hf] at h; exact h
    | ex c fs r1 => rw [hf] at h; exact h
    | ok xm r1 =>
      obtain ⟨x, m⟩ := xm
      rw [hf] at h
      intro v H1 M1 G1 F1 p
      refine tOs_hold fs p.er ?_
      simp only at h
      have v1 : Evo H M G H1 M1 G1 [] := ⟨p.ev.pres, p.ev.dom, p.ev.grow, p.ev.keep, p.ev.env, fun _ z => nomatch z⟩
      cases ha : evH fs r1 with
      | no => rw [ha] at h; exact h
      | ex c fs r2 =>
        rw [ha] at h
        exact fun d H3 M3 G3 q => h d H3 M3 G3 ⟨q.er, v1.trans e.hot q.ev, q.xd⟩
      | ok xs r2 =>
        rw [ha] at h
        intro vs H3 M3 G3 F3 q
        obtain ⟨p3, dis⟩ := p.keeps e.hot q.er q.ev
        have v3 := v1.trans e.hot q.ev
        refine h (v :: vs) H3 M3 G3 (F1 ++ F3) ⟨q.er, ⟨v3.pres, v3.dom, v3.grow, v3.keep, v3.env, fun b hb => (List.mem_append.mp hb).elim (p3.ev.res b) (v3.res b)⟩, .cons p3.rp q.hl, List.nodup_append.mpr ⟨p3.nd, q.nd, fun a ha b hb z => dis a ha (by rw [z]; exact hb)⟩, fun b hb => (List.mem_append.mp hb).elim (p3.hot b) (q.hot b)⟩
def putE : List Nat → List Vl → Ev → Option Ev
  | [], [], r => some r
  | i :: is, x :: xs, r => if i < r.length then putE is xs (r.set i (some x)) else none
  | _, _, _ => none
def putS : List Nat → List V → L2.St → L2.St
  | i :: is, v :: vs, σ => putS is vs (σ.set i (some v))
  | _, _, σ => σ
theorem HL.len : ∀ {vs : List V} {xs : List Vl} {F : List Addr}, HL K M H vs xs F → vs.length = xs.length
  | _, _, _, .nil => rfl
  | _, _, _, .cons _ q => congrArg (· + 1) q.len
theorem ER.puts : ∀ {is : List Nat} {vs : List V} {xs : List Vl} {F : List Addr} {r r' : Ev} {σ : L2.St} {G : Nat → List Addr}, ER K r σ G M H → HL K M H vs xs F → F.Nodup → (∀ b ∈ F, M b ∧ ∀ i, b ∉ G i) → putE is xs r = some r' →
    ∃ G', ER K r' (putS is vs σ) G' M H ∧ (∀ j b, b ∈ G' j → b ∈ G j ∨ b ∈ F) ∧ is.length = vs.length
  | [], _, _, _, r, r', σ, G, e, .nil, _, _, h => by
    simp only [putE] at h
    cases h
    exact ⟨G, e, fun _ _ h => .inl h, rfl⟩
  | [], _, _, _, r, r', σ, G, e, .cons _ _, _, _, h => by simp [putE] at h
  | i :: is, _, _, _, r, r', σ, G, e, .nil, _, _, h => by simp [putE] at h
  | i :: is, _, _, _, r, r', σ, G, e, .cons (F := F1) (F' := F2) rp q, nd, hot, h => by
    simp only [putE] at h
    split at h
    · rename_i hi
      obtain ⟨n1, n2, n3⟩ := List.nodup_append.mp nd
      have e1 := e.put rp n1 (fun b hb => hot b (List.mem_append_left _ hb)) (by rw [← e.len]; exact hi)
      obtain ⟨G', e2, g2, hl⟩ := ER.puts e1 q n2 (fun b hb => ⟨(hot b (List.mem_append_right _ hb)).1, fun j hj => by
        by_cases z : j = i
        · simp only [if_pos z] at hj; exact n3 b hj b hb rfl
        · simp only [if_neg z] at hj; exact (hot b (List.mem_append_right _ hb)).2 j hj⟩) h
      refine ⟨G', e2, fun j b hb => ?_, by simp [hl]⟩
      rcases g2 j b hb with z | z
      · by_cases y : j = i
        · simp only [if_pos y] at z; exact .inr (List.mem_append_left _ z)
        · simp only [if_neg y] at z; exact .inl z
      · exact .inr (List.mem_append_right _ z)
    · cases h
theorem putS_0 : ∀ {is : List Nat} {vs : List V} {σ : L2.St}, 0 ∉ is → (putS is vs σ)[0]? = σ[0]?
  | [], _, _, _ => rfl
  | i :: is, [], _, _ => rfl
  | i :: is, v :: vs, σ, h => by
    show (putS is vs (σ.set i (some v)))[0]? = _
    rw [putS_0 (fun z => h (List.mem_cons_of_mem _ z)), List.getElem?_set_ne (fun z => h (by rw [z]; exact List.mem_cons_self))]
/-- a, b = x, y -/
def sPar (is : List Nat) (fs : List (Ev → Ou Vl)) : Ev → So := fun r => match evH fs r with
  | .ok xs r1 => match putE is xs r1 with
    | some r2 => .nx r2
    | none => .no
  | .ex c fs r1 => .ex c fs r1
  | .no => .no
theorem par_go {is : List Nat} {fs : List (Ev → Ou Vl)} (hio : io = true → 0 ∉ is) (h : tIS K cl W io (sPar is fs) D σ H) : tOs K cl W (fs.map .e) σ H fun vs H1 => is.length = vs.length ∧ D.nx (putS is vs σ) H1 ∧ ∀ H2, (∀ b o, H1 b = some o → H2 b = some o) → D.nx (putS is vs σ) H2 := by
  obtain ⟨r, M, G, e, h⟩ := h
  refine tOs_hold fs e ?_
  simp only [sPar] at h
  cases ha : evH fs r with
  | no => rw [ha] at h; exact h
  | ex c fs r1 => rw [ha] at h; exact fun d H' M' G' p => h d σ H' M' G' ⟨p, fun _ => rfl⟩
  | ok xs r1 =>
    rw [ha] at h
    intro vs H1 M1 G1 F p
    simp only at h
    cases hp : putE is xs r1 with
    | none => rw [hp] at h; exact h.elim
    | some r2 =>
      rw [hp] at h
      obtain ⟨G2, e2, g2, hl⟩ := ER.puts p.er p.hl p.nd p.hot hp
      have v2 : Evo H M G H1 M1 G2 [] := ⟨p.ev.pres, p.ev.dom, p.ev.grow, p.ev.keep, fun j b hb => (g2 j b hb).elim (p.ev.env j b) (p.ev.res b), fun _ z => nomatch z⟩
      have pin : io = true → (putS is vs σ)[0]? = σ[0]? := fun z => putS_0 (hio z)
      refine ⟨hl, h _ H1 M1 G2 ⟨e2, v2, pin⟩, fun H2 g => ?_⟩
      obtain ⟨e3, v3⟩ := e2.grown g
      exact h _ H2 M1 G2 ⟨e3, v2.trans e.hot v3, pin⟩
/-! ### a def's body -/
def fin (io : Bool) (x : Vl) (r : Ev) : Fo := match io with
  | false => .rt x (.n, .c)
  | true => match r[0]? with
    | some (some z) => .rt x z
    | _ => .no
def finX (io : Bool) (c : Str) (fs : List (Str × Dt)) (r : Ev) : Fo := match io with
  | false => .ex c fs (.n, .c)
  | true => match r[0]? with
    | some (some z) => .ex c fs z
    | _ => .no
def mkFn (io : Bool) (n : Nat) (g : Ev → So) : Fn := fun xs => match g (xs.map some ++ List.replicate (n - xs.length) none) with
  | .rt x r => fin io x r
  | .nx r => fin io (.n, .c) r
  | .ex c fs r => finX io c fs r
  | _ => .no
theorem ER.pad {a : Ev} {b : L2.St} (e : ER K a b G M H) (n : Nat) : ER K (a ++ List.replicate n none) (b ++ List.replicate n none) G M H := by
  refine ⟨by simp [e.len], fun i x m h => ?_, fun i h => e.emp i fun x m q => h x m ?_, e.nd, e.dj, e.sub, e.hot⟩
  · by_cases q : i < a.length
    · rw [List.getElem?_append_left q] at h
      obtain ⟨v, h1, h2⟩ := e.at_ i x m h
      exact ⟨v, by rw [List.getElem?_append_left (by rw [← e.len]; exact q)]; exact h1, h2⟩
    · rw [List.getElem?_append_right (by omega), List.getElem?_replicate] at h
      split at h <;> cases h
  · rw [List.getElem?_append_left (List.getElem?_eq_some_iff.mp q).1]; exact q
theorem ER.head {z : Vl} {v0 : V} (e : ER K r σ G M H) (h1 : r[0]? = some (some z)) (h2 : σ[0]? = some (some v0)) : ER K [some z] [some v0] (fun i => if i = 0 then G 0 else []) M H := by
  refine ⟨rfl, fun i x m h => ?_, fun i h => ?_, fun i => ?_, fun i j hne b hb => ?_, fun i b hb => ?_, e.hot⟩
  · cases i with
    | zero =>
      simp at h
      subst h
      obtain ⟨v, h3, h4⟩ := e.at_ 0 x m h1
      rw [h2] at h3; cases h3
      exact ⟨v0, rfl, by simpa using h4⟩
    | succ i => simp at h
  · cases i with
    | zero => exact absurd rfl (h z.1 z.2)
    | succ i => simp
  · cases i with
    | zero => simpa using e.nd 0
    | succ i => simp
  · cases i with
    | zero => cases j with
      | zero => exact absurd rfl hne
      | succ j => simp
    | succ i => simp at hb
  · cases i with
    | zero => exact e.sub 0 b (by simpa using hb)
    | succ i => simp at hb
theorem ER.empt (e : ER K r σ G M H) : ER K [] [] (fun _ => []) M H := ⟨rfl, fun i x m h => by simp at h, fun _ _ => rfl, fun _ => List.nodup_nil, fun _ _ _ _ h => (nomatch h), fun _ _ h => (nomatch h), e.hot⟩
theorem Evo.less {F : List Addr} {G2 : Nat → List Addr} (a : Evo H M G H' M' G' F) (h : ∀ i b, b ∈ G2 i → ∃ j, b ∈ G' j) : Evo H M G H' M' G2 F :=
  ⟨a.pres, a.dom, a.grow, a.keep, fun i b hb => let ⟨j, q⟩ := h i b hb; a.env j b q, a.res⟩
theorem out_px {vs : List V} {σ' : L2.St} {v : V} {x : Dt} {m : Md} {F : List Addr} {z : Vl} (hv : io = true → ∃ v0, σ'[0]? = some (some v0) ∧ ioS true vs = [some v0]) (hz : io = true → r'[0]? = some (some z)) (p : PX K r' σ' H M G v x m H' M' G' F) :
    ∃ G2, PX K (ioE io z) (ioS io vs) H M G v x m H' M' G2 F := by
  cases io with
  | false => exact ⟨_, p.er.empt, p.ev.less fun _ _ h => (nomatch h), p.rp, p.nd, fun b hb => ⟨(p.hot b hb).1, fun _ h => nomatch h⟩⟩
  | true =>
    obtain ⟨v0, h1, h2⟩ := hv rfl
    refine ⟨fun i => if i = 0 then G' 0 else [], ?_, p.ev.less fun i b hb => ⟨0, ?_⟩, p.rp, p.nd, fun b hb => ⟨(p.hot b hb).1, fun i hi => ?_⟩⟩
    · rw [h2]; exact p.er.head (hz rfl) h1
    · cases i with
      | zero => simpa using hb
      | succ i => simp at hb
    · cases i with
      | zero => exact (p.hot b hb).2 0 (by simpa using hi)
      | succ i => simp at hi
theorem out_xx {vs : List V} {σ' : L2.St} {fs : List (Str × Dt)} {d : Option Addr} {z : Vl} (hv : io = true → ∃ v0, σ'[0]? = some (some v0) ∧ ioS true vs = [some v0]) (hz : io = true → r'[0]? = some (some z)) (p : XX K r' σ' H M G fs d H' M' G') :
    ∃ G2, XX K (ioE io z) (ioS io vs) H M G fs d H' M' G2 := by
  cases io with
  | false => exact ⟨_, p.er.empt, p.ev.less fun _ _ h => (nomatch h), p.xd⟩
  | true =>
    obtain ⟨v0, h1, h2⟩ := hv rfl
    refine ⟨fun i => if i = 0 then G' 0 else [], ?_, p.ev.less fun i b hb => ⟨0, ?_⟩, p.xd⟩
    · rw [h2]; exact p.er.head (hz rfl) h1
    · cases i with
      | zero => simpa using hb
      | succ i => simp at hb
end
section
variable {P : Program} {w : World} {K : PySem.W.Frag} {mg : Str → Option Value} {base : Heap} {cl : Str → Addr} {io : Bool}
/-- THE RULE for a def -/
theorem fn_ok {x qual : Str} {st : Stmt} {f : Addr} {fd : FuncData} {N ps : List Str} {k n nn : Nat} {g : Ev → So} (F : Fun K x qual st f fd) (S : FnScope N ps (defScope st)) (hn : ps.length = n := by rfl) (hnn : N.length = nn := by rfl) (hio : io = true → 0 < n := by decide)
    (hb : ∀ (cdv : Value) (A : Around) (outer : List Env) (s : Shared) (H : Hp) (E : XK), Room k (A.deeper (envOfC qual (defScope st) s.heap.objs.size f cdv)) → JB (cxOf (L2.CX P w) P w K mg base N qual (defScope st) f cdv A outer s H E) cl (fun cls d _ H => E cls d H) io (defBody st) g) :
    FnOk P w K mg base (L2.CX P w) (k + 1) f fd ps (spY K cl io n (mkFn io nn g)) := by
  subst hn hnn
  refine fn_okX F S (fun vs H Q E h => h.1) fun cdv A outer s H vs Q E hr h => ⟨_, hb cdv A outer s H E hr (takes_of rfl rfl rfl rfl), ?_⟩
  obtain ⟨hlen, xs, M, G, e, gio, h⟩ := h
  have hxl : xs.length = vs.length := by simpa using e.len
  have e0 : ER K (xs.map some ++ List.replicate (N.length - xs.length) none) (start N vs) G M H := by
    have := e.pad (N.length - xs.length)
    rw [hxl] at this ⊢
    exact this
  refine ⟨_, M, G, e0, ?_⟩
  have first : io = true → ∃ v0, (start N vs)[0]? = some (some v0) ∧ ioS true vs = [some v0] := fun z => by
    have := hio z
    cases vs with
    | nil => simp at hlen; omega
    | cons v0 vs => exact ⟨v0, rfl, by simp [ioS]⟩
  simp only [mkFn] at h
  have done : ∀ (x : Dt) (m : Md) (r' : Ev), (match fin io (x, m) r' with
      | .rt (x, m) z => ∀ v H' M' G' F, PX K (ioE io z) (ioS io vs) H M G v x m H' M' G' F → Q v H'
      | .ex c fs z => ∀ d H' M' G', XX K (ioE io z) (ioS io vs) H M G fs d H' M' G' → E (.ref (cl c)) d H'
      | .no => False) → ∀ v σ' H' M' G' F, RX K io r' (start N vs) σ' H M G v x m H' M' G' F → Q v H' := fun x m r' h v σ' H' M' G' F p => by
    have hv : io = true → ∃ v0, σ'[0]? = some (some v0) ∧ ioS true vs = [some v0] := fun z => by
      obtain ⟨v0, h1, h2⟩ := first z
      exact ⟨v0, (p.pin z).trans h1, h2⟩
    cases io with
    | false =>
      simp only [fin] at h
      obtain ⟨G2, q⟩ := out_px (z := (.n, .c)) (vs := vs) hv (fun z => nomatch z) p.px
      exact h v H' M' G2 F q
    | true =>
      simp only [fin] at h
      cases hr : r'[0]? with
      | none => rw [hr] at h; exact h.elim
      | some o =>
        cases o with
        | none => rw [hr] at h; exact h.elim
        | some z =>
          rw [hr] at h
          obtain ⟨G2, q⟩ := out_px (z := z) (vs := vs) hv (fun _ => hr) p.px
          exact h v H' M' G2 F q
  cases hg : g (xs.map some ++ List.replicate (N.length - xs.length) none) with
  | no => rw [hg] at h; exact h
  | bk r' => rw [hg] at h; exact h.elim
  | ct r' => rw [hg] at h; exact h.elim
  | nx r' =>
    rw [hg] at h
    exact fun σ' H' M' G' p => done .n .c r' h .non σ' H' M' G' [] ⟨⟨p.er, p.ev, ⟨.n, rfl⟩, List.nodup_nil, fun _ z => (nomatch z)⟩, p.pin⟩
  | rt xm r' =>
    obtain ⟨x, m⟩ := xm
    rw [hg] at h
    exact fun v σ' H' M' G' F p => done x m r' h v σ' H' M' G' F p
  | ex c fs r' =>
    rw [hg] at h
    intro d σ' H' M' G' p
    have hv : io = true → ∃ v0, σ'[0]? = some (some v0) ∧ ioS true vs = [some v0] := fun z => by
      obtain ⟨v0, h1, h2⟩ := first z
      exact ⟨v0, (p.pin z).trans h1, h2⟩
    cases io with
    | false =>
      simp only [finX] at h
      obtain ⟨G2, q⟩ := out_xx (z := (.n, .c)) (vs := vs) hv (fun z => nomatch z) p.xx
      exact h d H' M' G2 q
    | true =>
      simp only [finX] at h
      cases hr : r'[0]? with
      | none => rw [hr] at h; exact h.elim
      | some o =>
        cases o with
        | none => rw [hr] at h; exact h.elim
        | some z =>
          rw [hr] at h
          obtain ⟨G2, q⟩ := out_xx (z := z) (vs := vs) hv (fun _ => hr) p.xx
          exact h d H' M' G2 q
end
end Y
/-! Y, part P: primitives. -/
namespace Y
open PySem L2 PyProof.Rows
section
variable {K : PySem.W.Frag} {M M' : Addr → Prop} {H H' : Hp}
theorem mk_c (ht : Hotty M H) {v : V} {x : Dt} (c : Co K M H v x) : Mk K H M v x .c H [] := ⟨fun _ _ h => h, fun _ z => (nomatch z), List.nodup_nil, c.less (fun b z => z.elim id fun z => (nomatch z)) ht, rfl⟩
theorem Pr.or {rr rr' : List V → Hp → VK → Prop} {f f' : List Dt → Option Vl} (h : Pr K rr f) (h' : Pr K rr' f') : Pr K (fun vs H Q => rr vs H Q ∨ rr' vs H Q) (fun xs => (f xs).or (f' xs)) := fun M H vs xs x m Q ht c hf k => by
  have hf : (f xs).or (f' xs) = some (x, m) := hf
  cases e : f xs with
  | some y => rw [e, Option.some_or] at hf; cases hf; exact .inl (h M H vs xs x m Q ht c e k)
  | none => rw [e, Option.none_or] at hf; exact .inr (h' M H vs xs x m Q ht c hf k)
theorem Pr.imp {rr rr' : List V → Hp → VK → Prop} {f : List Dt → Option Vl} (h : Pr K rr f) (i : ∀ vs H Q, rr vs H Q → rr' vs H Q) : Pr K rr' f := fun M H vs xs x m Q ht c hf k => i _ _ _ (h M H vs xs x m Q ht c hf k)
theorem Pr.or2 {r r' : R2} {f f' : List Dt → Option Vl} (h : Pr K (ap2 r) f) (h' : Pr K (ap2 r') f') : Pr K (ap2 fun x y H Q => r x y H Q ∨ r' x y H Q) (fun xs => (f xs).or (f' xs)) := (h.or h').imp fun vs H Q z => by
  match vs, z with
  | [x, y], z => exact z
  | [], .inl z => exact z
  | [], .inr z => exact z
  | [_], .inl z => exact z
  | [_], .inr z => exact z
  | _ :: _ :: _ :: _, .inl z => exact z
  | _ :: _ :: _ :: _, .inr z => exact z
theorem CoL.two {vs : List V} {x y : Dt} (c : CoL K M H vs [x, y]) : ∃ v w, vs = [v, w] ∧ Co K M H v x ∧ Co K M H w y := by
  cases c with
  | cons h q => cases q with
    | cons h2 q2 => cases q2; exact ⟨_, _, rfl, h, h2⟩
theorem CoL.one {vs : List V} {x : Dt} (c : CoL K M H vs [x]) : ∃ v, vs = [v] ∧ Co K M H v x := by
  cases c with
  | cons h q => cases q; exact ⟨_, rfl, h⟩
theorem CoL.three {vs : List V} {x y z : Dt} (c : CoL K M H vs [x, y, z]) : ∃ v w u, vs = [v, w, u] ∧ Co K M H v x ∧ Co K M H w y ∧ Co K M H u z := by
  cases c with
  | cons h q => obtain ⟨v, w, rfl, h1, h2⟩ := q.two; exact ⟨_, _, _, rfl, h, h1, h2⟩
theorem Co.int {v : V} {a : Int} (c : Co K M H v (.i a)) : v = .int a := by cases c; rfl
theorem Co.bl {v : V} {a : Bool} (c : Co K M H v (.b a)) : v = .bl a := by cases c; rfl
theorem Co.str {v : V} {a : Str} (c : Co K M H v (.s a)) : v = .str a := by cases c; rfl
theorem Co.non {v : V} (c : Co K M H v .n) : v = .non := by cases c; rfl
theorem Co.lst {v : V} {xs : List Dt} (c : Co K M H v (.l xs)) : ∃ a vs, v = .ref a ∧ H a = some (.lst vs) ∧ CoL K M H vs xs := by cases c with | l h _ q => exact ⟨_, _, rfl, h, q⟩
theorem Co.tup {v : V} {xs : List Dt} (c : Co K M H v (.t xs)) : ∃ a vs, v = .ref a ∧ SqT K H a vs ∧ CoL K M H vs xs := by cases c with | t h q => exact ⟨_, _, rfl, h, q⟩
theorem Co.frz {v : V} {xs : List Dt} (c : Co K M H v (.z xs)) : ∃ a vs, v = .ref a ∧ SqF K H a vs ∧ CoL K M H vs xs := by cases c with | z h q => exact ⟨_, _, rfl, h, q⟩

/-! ### numbers -/
def fII (g : Int → Int → Dt) : List Dt → Option Vl
  | [.i a, .i b] => some (g a b, .c)
  | _ => none
def fIC (C : Int → Int → Bool) (g : Int → Int → Dt) : List Dt → Option Vl
  | [.i a, .i b] => if C a b then some (g a b, .c) else none
  | _ => none
theorem pr_i0 {g : Int → Int → V} {g' : Int → Int → Dt} (hg : ∀ a b M H, Co K M H (g a b) (g' a b)) : Pr K (ap2 (rI0 g)) (fII g') := fun M H vs xs x m Q ht c hf k => by
  unfold fII at hf
  split at hf
  · cases hf
    obtain ⟨v, w, rfl, c1, c2⟩ := c.two
    exact ⟨_, _, c1.int, c2.int, k _ _ _ (mk_c ht (hg _ _ _ _))⟩
  · cases hf
theorem pr_iC {C : Int → Int → Prop} {C' : Int → Int → Bool} {g : Int → Int → V} {g' : Int → Int → Dt} (hC : ∀ a b, C' a b = true → C a b) (hg : ∀ a b M H, Co K M H (g a b) (g' a b)) : Pr K (ap2 (rI C g)) (fIC C' g') := fun M H vs xs x m Q ht c hf k => by
  unfold fIC at hf
  split at hf
  · split at hf
    · rename_i h
      cases hf
      obtain ⟨v, w, rfl, c1, c2⟩ := c.two
      exact ⟨_, _, c1.int, c2.int, hC _ _ h, k _ _ _ (mk_c ht (hg _ _ _ _))⟩
    · cases hf
  · cases hf
/-! ### lists, tuples, texts put together -/
def fCatL : List Dt → Option Vl
  | [.l xs, .l ys] => if xs.length + ys.length ≤ LIM then some (.l (xs ++ ys), .t) else none
  | _ => none
theorem CoL.app : ∀ {vs us : List V} {xs ys : List Dt}, CoL K M H vs xs → CoL K M H us ys → CoL K M H (vs ++ us) (xs ++ ys)
  | _, _, _, _, .nil, q => q
  | _, _, _, _, .cons a b, q => .cons a (b.app q)
theorem pr_catL : Pr K (ap2 rCat) fCatL := fun M H vs xs x m Q ht c hf k => by
  unfold fCatL at hf
  split at hf
  · split at hf
    · rename_i h
      cases hf
      obtain ⟨v, w, rfl, c1, c2⟩ := c.two
      obtain ⟨a, us, rfl, h1, q1⟩ := c1.lst
      obtain ⟨b, ws, rfl, h2, q2⟩ := c2.lst
      exact ⟨a, b, us, ws, rfl, rfl, h1, h2, by rw [q1.len, q2.len]; exact lim_size h, fun p hp => k _ _ _ (mk_lst ht hp (q1.app q2))⟩
    · cases hf
  · cases hf
def fCatT : List Dt → Option Vl
  | [.t xs, .t ys] => if xs.length + ys.length ≤ LIM then some (.t (xs ++ ys), .c) else none
  | _ => none
theorem CoL.nilV {vs : List V} (c : CoL K M H vs []) : vs = [] := by cases c; rfl
theorem CoL.nilD {xs : List Dt} (c : CoL K M H [] xs) : xs = [] := by cases c; rfl
theorem pr_catT : Pr K (ap2 (rCatA K)) fCatT := fun M H vs xs x m Q ht c hf k => by
  unfold fCatT at hf
  split at hf
  · split at hf
    · rename_i h
      cases hf
      obtain ⟨v, w, rfl, c1, c2⟩ := c.two
      obtain ⟨a, us, rfl, h1, q1⟩ := c1.tup
      obtain ⟨b, ws, rfl, h2, q2⟩ := c2.tup
      refine ⟨a, b, us, ws, rfl, rfl, h1, h2, by rw [q1.len, q2.len]; exact lim_size h, fun e => ?_, fun _ e => ?_, fun _ _ p hp => k _ _ _ (mk_tup ht hp (q1.app q2))⟩
      · subst e
        have z := q1.nilD
        rw [z, List.nil_append] at k
        exact k _ _ _ (mk_c ht (.t h2 q2))
      · subst e
        have z := q2.nilD
        rw [z, List.append_nil] at k
        exact k _ _ _ (mk_c ht (.t h1 q1))
    · cases hf
  · cases hf
def fCatS : List Dt → Option Vl
  | [.s a, .s b] => if a.length + b.length ≤ LIM then some (.s (a ++ b), .c) else none
  | _ => none
theorem pr_catS : Pr K (ap2 fun x y H Q => ∃ i j, x = .str i ∧ y = .str j ∧ i.length + j.length ≤ sizeLine ∧ Q (.str (i ++ j)) H) fCatS := fun M H vs xs x m Q ht c hf k => by
  unfold fCatS at hf
  split at hf
  · split at hf
    · rename_i h
      cases hf
      obtain ⟨v, w, rfl, c1, c2⟩ := c.two
      exact ⟨_, _, c1.str, c2.str, lim_size h, k _ _ _ (mk_c ht (.s _))⟩
    · cases hf
  · cases hf
def fRepL : List Dt → Option Vl
  | [.l xs, .i n] => if n ≤ 1000000 ∧ -1000000 ≤ n ∧ xs.length * n.toNat ≤ LIM then some (.l (List.replicate n.toNat xs).flatten, .t) else none
  | _ => none
theorem CoL.rep {vs : List V} {xs : List Dt} (c : CoL K M H vs xs) : ∀ n : Nat, CoL K M H (List.replicate n vs).flatten (List.replicate n xs).flatten
  | 0 => .nil
  | n + 1 => by
    rw [List.replicate_succ, List.replicate_succ, List.flatten_cons, List.flatten_cons]
    exact c.app (CoL.rep c n)
theorem pr_repL : Pr K (ap2 rRep) fRepL := fun M H vs xs x m Q ht c hf k => by
  unfold fRepL at hf
  split at hf
  · split at hf
    · rename_i h
      cases hf
      obtain ⟨v, w, rfl, c1, c2⟩ := c.two
      obtain ⟨a, us, rfl, h1, q1⟩ := c1.lst
      exact ⟨a, _, us, rfl, c2.int, h1, by omega, by omega, by rw [q1.len]; exact lim_size h.2.2, fun p hp => k _ _ _ (mk_lst ht hp (q1.rep _))⟩
    · cases hf
  · cases hf
/-! ### the operators -/
variable {X : Cx}
def fAdd : List Dt → Option Vl := fun xs => (fII (fun a b => .i (a + b)) xs).or ((fCatL xs).or ((fCatT xs).or (fCatS xs)))
def rAddA (K : PySem.W.Frag) : R2 := fun x y H Q => rI0 (fun i j => .int (i + j)) x y H Q ∨ (rCat x y H Q ∨ (rCatA K x y H Q ∨ (∃ i j, x = .str i ∧ y = .str j ∧ i.length + j.length ≤ sizeLine ∧ Q (.str (i ++ j)) H)))
theorem or_add : OpR X (binaryOp .Add) (rAddA X.K) := op_add.or (op_cat.or (op_catA.or op_add_str))
theorem pr_add : Pr K (ap2 (rAddA K)) fAdd := (pr_i0 fun a b M H => .i _).or2 (pr_catL.or2 (pr_catT.or2 pr_catS))
def fSub : List Dt → Option Vl := fII fun a b => .i (a - b)
theorem pr_sub : Pr K (ap2 (rI0 fun i j => .int (i - j))) fSub := pr_i0 fun a b M H => .i _
def cMul (i j : Int) : Bool := (decide (-(2 ^ 64) < i) && decide (i < 2 ^ 64)) || (decide (-(2 ^ 64) < j) && decide (j < 2 ^ 64))
theorem cMul_ok {i j : Int} (h : cMul i j = true) : CMul i j := by
  simp only [cMul, Bool.or_eq_true, Bool.and_eq_true, decide_eq_true_eq] at h
  exact h
def fMulI : List Dt → Option Vl := fIC cMul fun a b => .i (a * b)
def fDiv : List Dt → Option Vl := fIC (fun _ j => decide (0 < j) && decide (j.natAbs.log2 < 9000)) fun a b => .i (a / b)
theorem pr_div : Pr K (ap2 (rI CDivW fun i j => .int (i / j))) fDiv := pr_iC (fun a b h => by simpa [CDivW] using h) fun a b M H => .i _
def fMod : List Dt → Option Vl := fIC (fun _ j => decide (0 < j)) fun a b => .i (a % b)
theorem pr_mod : Pr K (ap2 (rI (fun _ j => 0 < j) fun i j => .int (i % j))) fMod := pr_iC (fun a b h => by simpa using h) fun a b M H => .i _
def fPow : List Dt → Option Vl := fIC (fun i j => decide (0 ≤ j) && decide (j ≤ 1000000) && decide (i.natAbs < 2 ^ 64)) fun a b => .i (a ^ b.toNat)
theorem pr_pow : Pr K (ap2 (rI CPow fun i j => .int (i ^ j.toNat))) fPow := pr_iC (fun a b h => by
  simp only [Bool.and_eq_true, decide_eq_true_eq] at h
  exact ⟨h.1.1, h.1.2, h.2⟩) fun a b M H => .i _
def fNeg : List Dt → Option Vl
  | [.i a] => some (.i (-a), .c)
  | _ => none
theorem pr_neg : Pr K (ap1 (rU fun i => .int (-i))) fNeg := fun M H vs xs x m Q ht c hf k => by
  unfold fNeg at hf
  split at hf
  · cases hf
    obtain ⟨v, rfl, c1⟩ := c.one
    exact ⟨_, c1.int, k _ _ _ (mk_c ht (.i _))⟩
  · cases hf
def fLt : List Dt → Option Vl := fII fun a b => .b (decide (a < b))
def fLe : List Dt → Option Vl := fII fun a b => .b (decide (a ≤ b))
def fGt : List Dt → Option Vl := fII fun a b => .b (decide (b < a))
def fGe : List Dt → Option Vl := fII fun a b => .b (decide (b ≤ a))
theorem pr_lt : Pr K (ap2 (rI0 fun i j => .bl (decide (i < j)))) fLt := pr_i0 fun a b M H => .b _
theorem pr_le : Pr K (ap2 (rI0 fun i j => .bl (decide (i ≤ j)))) fLe := pr_i0 fun a b M H => .b _
theorem pr_gt : Pr K (ap2 (rI0 fun i j => .bl (decide (j < i)))) fGt := pr_i0 fun a b M H => .b _
theorem pr_ge : Pr K (ap2 (rI0 fun i j => .bl (decide (j ≤ i)))) fGe := pr_i0 fun a b M H => .b _
/-! ### data as the library has them -/
/-- what is no plain data: deep, a dict within -/
def badP : Nat → PyData
  | 0 => .dict []
  | n + 1 => .list [badP n]
theorem badP_can : ∀ n, (badP n).canLay0 = false
  | 0 => by simp [badP, PyData.canLay0]
  | n + 1 => by simp [badP, PyData.canLay0, PyData.canLayAll0, badP_can n]
theorem badP_hd : ∀ n, (badP n).hasDict = true
  | 0 => by simp [badP, PyData.hasDict]
  | n + 1 => by simp [badP, PyData.hasDict, PyData.hasDictAll, badP_hd n]
theorem badP_dep : ∀ n, n ≤ (badP n).depth
  | 0 => Nat.zero_le _
  | n + 1 => by
    have := badP_dep n
    simp only [badP, PyData.depth, PyData.depthAll]
    omega
mutual
def toP : Dt → PyData
  | .n => .none
  | .b x => .bool x
  | .i x => .int x
  | .s x => .str x
  | .t xs => .tuple (toPL xs)
  | .l xs => .list (toPL xs)
  | .z xs => .list (toPL xs)
  | .m _ _ => badP 60
  | .o _ _ _ => badP 60
def toPL : List Dt → List PyData
  | [] => []
  | x :: xs => toP x :: toPL xs
end
mutual
/-- no dict, no object within -/
def nob : Dt → Bool
  | .t xs => nobL xs
  | .l xs => nobL xs
  | .z xs => nobL xs
  | .m _ _ => false
  | .o _ _ _ => false
  | _ => true
def nobL : List Dt → Bool
  | [] => true
  | x :: xs => nob x && nobL xs
end
mutual
theorem nob_can : ∀ x : Dt, (toP x).canLay0 = true → nob x = true
  | .n, _ => rfl
  | .b _, _ => rfl
  | .i _, _ => rfl
  | .s _, _ => rfl
  | .t xs, h => nobL_can xs h
  | .l xs, h => nobL_can xs h
  | .z xs, h => nobL_can xs h
  | .m _ _, h => by simp only [toP, badP_can] at h; cases h
  | .o _ _ _, h => by simp only [toP, badP_can] at h; cases h
theorem nobL_can : ∀ xs : List Dt, PyData.canLayAll0 (toPL xs) = true → nobL xs = true
  | [], _ => rfl
  | x :: xs, h => by
    simp only [toPL, PyData.canLayAll0, Bool.and_eq_true] at h
    simp only [nobL, nob_can x h.1, nobL_can xs h.2, Bool.and_self]
end
mutual
theorem nob_hd : ∀ x : Dt, (toP x).hasDict = false → nob x = true
  | .n, _ => rfl
  | .b _, _ => rfl
  | .i _, _ => rfl
  | .s _, _ => rfl
  | .t xs, h => nobL_hd xs h
  | .l xs, h => nobL_hd xs h
  | .z xs, h => nobL_hd xs h
  | .m _ _, h => by simp only [toP, badP_hd] at h; cases h
  | .o _ _ _, h => by simp only [toP, badP_hd] at h; cases h
theorem nobL_hd : ∀ xs : List Dt, PyData.hasDictAll (toPL xs) = false → nobL xs = true
  | [], _ => rfl
  | x :: xs, h => by
    simp only [toPL, PyData.hasDictAll, Bool.or_eq_false_iff] at h
    simp only [nobL, nob_hd x h.1, nobL_hd xs h.2, Bool.and_self]
end
mutual
theorem nob_dep : ∀ x : Dt, (toP x).depth ≤ 59 → nob x = true
  | .n, _ => rfl
  | .b _, _ => rfl
  | .i _, _ => rfl
  | .s _, _ => rfl
  | .t xs, h => nobL_dep xs (by simp only [toP, PyData.depth] at h; omega)
  | .l xs, h => nobL_dep xs (by simp only [toP, PyData.depth] at h; omega)
  | .z xs, h => nobL_dep xs (by simp only [toP, PyData.depth] at h; omega)
  | .m _ _, h => by have := badP_dep 60; simp only [toP] at h; omega
  | .o _ _ _, h => by have := badP_dep 60; simp only [toP] at h; omega
theorem nobL_dep : ∀ xs : List Dt, PyData.depthAll (toPL xs) ≤ 59 → nobL xs = true
  | [], _ => rfl
  | x :: xs, h => by
    simp only [toPL, PyData.depthAll] at h
    simp only [nobL, nob_dep x (by omega), nobL_dep xs (by omega), Bool.and_self]
end
theorem toPL_map : ∀ xs : List Dt, toPL xs = xs.map toP
  | [] => rfl
  | x :: xs => by simp [toPL, toPL_map xs]
mutual
theorem Co.dp : ∀ {v : V} {x : Dt}, Co K M H v x → nob x = true → Dp K H v (toP x)
  | _, _, .n, _ => .non
  | _, _, .b x, _ => .bl x
  | _, _, .i x, _ => .int x
  | _, _, .s x, _ => .str x
  | _, _, .t h q, n => .tup h (CoL.dp q n)
  | _, _, .l h hn q, n => .lst (.inl (.inl h)) (CoL.dp q n)
  | _, _, .z h q, n => .lst h.sq (CoL.dp q n)
  | _, _, .m h q, n => by simp [nob] at n
  | _, _, .o h c q, n => by simp [nob] at n
theorem CoL.dp : ∀ {vs : List V} {xs : List Dt}, CoL K M H vs xs → nobL xs = true → DpAll K H vs (toPL xs)
  | _, _, .nil, _ => .nil
  | _, _, .cons h q, n => by
    simp only [nobL, Bool.and_eq_true] at n
    exact .cons (Co.dp h n.1) (CoL.dp q n.2)
end
def shp (x : Dt) : Bool := SeqAt.shaped (toP x)
theorem nob_shp {x : Dt} (h : shp x = true) : nob x = true := nob_can x (SeqAt.canLay_of_shaped h)
def eqD (x y : Dt) : Bool := PyData.eqv (toP x) (toP y)
def fEq : List Dt → Option Vl
  | [.s a, .s b] => some (.b (decide (a = b)), .c)
  | [x, y] => if shp x && shp y then some (.b (eqD x y), .c) else none
  | _ => none
def fNe : List Dt → Option Vl
  | [.s a, .s b] => some (.b (!decide (a = b)), .c)
  | [x, y] => if shp x && shp y then some (.b (!eqD x y), .c) else none
  | _ => none
def rEqA (K : PySem.W.Frag) : R2 := fun x y H Q => rEq x y H Q ∨ rEqD K x y H Q
def rNeA (K : PySem.W.Frag) : R2 := fun x y H Q => rNe x y H Q ∨ rNeD K x y H Q
theorem or_eq (hu : X.A.units + 64 < cLine) : OpR X (compareOp .Eq) (rEqA X.K) := op_eq.or (op_eqD hu)
theorem or_ne (hu : X.A.units + 64 < cLine) : OpR X (compareOp .NotEq) (rNeA X.K) := op_ne.or (op_neD hu)
theorem pr_eq : Pr K (ap2 (rEqA K)) fEq := fun M H vs xs x m Q ht c hf k => by
  unfold fEq at hf
  split at hf
  · cases hf
    obtain ⟨v, w, rfl, c1, c2⟩ := c.two
    cases c1
    cases c2
    refine .inl ⟨rfl, ?_⟩
    simp only [V.str.injEq]
    exact k _ _ _ (mk_c ht (.b _))
  · split at hf
    · rename_i h
      cases hf
      rw [Bool.and_eq_true] at h
      obtain ⟨v, w, rfl, c1, c2⟩ := c.two
      exact .inr ⟨_, _, c1.dp (nob_shp h.1), c2.dp (nob_shp h.2), h.1, h.2, k _ _ _ (mk_c ht (.b _))⟩
    · cases hf
  · cases hf
theorem pr_ne : Pr K (ap2 (rNeA K)) fNe := fun M H vs xs x m Q ht c hf k => by
  unfold fNe at hf
  split at hf
  · cases hf
    obtain ⟨v, w, rfl, c1, c2⟩ := c.two
    cases c1
    cases c2
    refine .inl ⟨rfl, ?_⟩
    simp only [V.str.injEq]
    exact k _ _ _ (mk_c ht (.b _))
  · split at hf
    · rename_i h
      cases hf
      rw [Bool.and_eq_true] at h
      obtain ⟨v, w, rfl, c1, c2⟩ := c.two
      exact .inr ⟨_, _, c1.dp (nob_shp h.1), c2.dp (nob_shp h.2), h.1, h.2, k _ _ _ (mk_c ht (.b _))⟩
    · cases hf
  · cases hf
/-! ### None, truths: is -/
def isn : Dt → Bool
  | .n => true
  | _ => false
def fIsN : List Dt → Option Vl
  | [x, .n] => some (.b (isn x), .c)
  | _ => none
def fNotN : List Dt → Option Vl
  | [x, .n] => some (.b (!isn x), .c)
  | _ => none
theorem Co.isn {v : V} {x : Dt} (c : Co K M H v x) : decide (v = .non) = Y.isn x := by cases c <;> simp [Y.isn]
theorem pr_isN : Pr K (ap2 fun x y H Q => y = .non ∧ Q (.bl (decide (x = .non))) H) fIsN := fun M H vs xs x m Q ht c hf k => by
  unfold fIsN at hf
  split at hf
  · cases hf
    obtain ⟨v, w, rfl, c1, c2⟩ := c.two
    exact ⟨c2.non, by rw [c1.isn]; exact k _ _ _ (mk_c ht (.b _))⟩
  · cases hf
theorem pr_notN : Pr K (ap2 fun x y H Q => y = .non ∧ Q (.bl (!decide (x = .non))) H) fNotN := fun M H vs xs x m Q ht c hf k => by
  unfold fNotN at hf
  split at hf
  · cases hf
    obtain ⟨v, w, rfl, c1, c2⟩ := c.two
    exact ⟨c2.non, by rw [c1.isn]; exact k _ _ _ (mk_c ht (.b _))⟩
  · cases hf
def fIsB : List Dt → Option Vl
  | [.b a, .b c] => some (.b (decide (a = c)), .c)
  | _ => none
def fNotB : List Dt → Option Vl
  | [.b a, .b c] => some (.b (!decide (a = c)), .c)
  | _ => none
theorem pr_isB : Pr K (ap2 rIsB) fIsB := fun M H vs xs x m Q ht c hf k => by
  unfold fIsB at hf
  split at hf
  · cases hf
    obtain ⟨v, w, rfl, c1, c2⟩ := c.two
    exact ⟨_, _, c1.bl, c2.bl, k _ _ _ (mk_c ht (.b _))⟩
  · cases hf
theorem pr_notB : Pr K (ap2 rNotB) fNotB := fun M H vs xs x m Q ht c hf k => by
  unfold fNotB at hf
  split at hf
  · cases hf
    obtain ⟨v, w, rfl, c1, c2⟩ := c.two
    exact ⟨_, _, c1.bl, c2.bl, k _ _ _ (mk_c ht (.b _))⟩
  · cases hf
def fIs : List Dt → Option Vl := fun xs => (fIsN xs).or (fIsB xs)
def fNot : List Dt → Option Vl := fun xs => (fNotN xs).or (fNotB xs)
theorem or_is : OpR X (compareOp .Is) (fun x y H Q => (y = .non ∧ Q (.bl (decide (x = .non))) H) ∨ rIsB x y H Q) := op_isN.or op_isBl
theorem or_not : OpR X (compareOp .IsNot) (fun x y H Q => (y = .non ∧ Q (.bl (!decide (x = .non))) H) ∨ rNotB x y H Q) := op_notN.or op_notBl
theorem pr_is : Pr K (ap2 fun x y H Q => (y = .non ∧ Q (.bl (decide (x = .non))) H) ∨ rIsB x y H Q) fIs := pr_isN.or2 pr_isB
theorem pr_not : Pr K (ap2 fun x y H Q => (y = .non ∧ Q (.bl (!decide (x = .non))) H) ∨ rNotB x y H Q) fNot := pr_notN.or2 pr_notB
/-! ### items -/
def fIx : List Dt → Option Vl
  | [.l xs, .i n] => (atI xs n).map (·, .c)
  | [.t xs, .i n] => (atI xs n).map (·, .c)
  | [.z xs, .i n] => (atI xs n).map (·, .c)
  | [.s z, .i n] => if z.length ≤ LIM then (atI z.cps.toList n).map (fun c => (.s ⟨#[c]⟩, .c)) else none
  | _ => none
theorem CoL.at {vs : List V} {xs : List Dt} {n : Int} {x : Dt} (c : CoL K M H vs xs) (h : atI xs n = some x) : ∃ v, atI vs n = some v ∧ Co K M H v x := by
  unfold atI at h ⊢
  rw [c.len]
  cases e : ixN xs.length n with
  | none => rw [e] at h; cases h
  | some j =>
    rw [e] at h
    obtain ⟨v, h1, h2⟩ := c.get (by simpa using h)
    exact ⟨v, by simpa using h1, h2⟩
theorem pr_ix : Pr K (ap2 (rIx K)) fIx := fun M H vs xs x m Q ht c hf k => by
  unfold fIx at hf
  split at hf
  · simp only [Option.map_eq_some_iff, Prod.mk.injEq] at hf
    obtain ⟨y, hy, rfl, rfl⟩ := hf
    obtain ⟨v, w, rfl, c1, c2⟩ := c.two
    obtain ⟨a, us, rfl, h1, q1⟩ := c1.lst
    obtain ⟨u, hu, cu⟩ := q1.at hy
    exact .inl ⟨a, us, _, u, rfl, c2.int, .inl (.inl h1), hu, k _ _ _ (mk_c ht cu)⟩
  · simp only [Option.map_eq_some_iff, Prod.mk.injEq] at hf
    obtain ⟨y, hy, rfl, rfl⟩ := hf
    obtain ⟨v, w, rfl, c1, c2⟩ := c.two
    obtain ⟨a, us, rfl, h1, q1⟩ := c1.tup
    obtain ⟨u, hu, cu⟩ := q1.at hy
    exact .inr (.inl ⟨a, us, _, u, rfl, c2.int, h1, hu, k _ _ _ (mk_c ht cu)⟩)
  · simp only [Option.map_eq_some_iff, Prod.mk.injEq] at hf
    obtain ⟨y, hy, rfl, rfl⟩ := hf
    obtain ⟨v, w, rfl, c1, c2⟩ := c.two
    obtain ⟨a, us, rfl, h1, q1⟩ := c1.frz
    obtain ⟨u, hu, cu⟩ := q1.at hy
    exact .inl ⟨a, us, _, u, rfl, c2.int, h1.sq, hu, k _ _ _ (mk_c ht cu)⟩
  · split at hf
    · rename_i hz
      simp only [Option.map_eq_some_iff, Prod.mk.injEq] at hf
      obtain ⟨y, hy, rfl, rfl⟩ := hf
      obtain ⟨v, w, rfl, c1, c2⟩ := c.two
      exact .inr (.inr ⟨_, _, _, c1.str, c2.int, lim_size hz, hy, k _ _ _ (mk_c ht (.s _))⟩)
    · cases hf
  · cases hf
end
end Y
/-! Y, part Q: built-in functions, slices, membership, sorting. -/
namespace Y
open PySem L2 PyProof.Rows
section
variable {X : Cx} {K : PySem.W.Frag} {M M' : Addr → Prop} {H H' : Hp}
theorem CallR.any {f : Value} {r r' : List V → Hp → VK → Prop} (h : CallR X f r) (i : ∀ vs H Q, r' vs H Q → r vs H Q) : CallR X f r' := fun pins s σ H xs us Q I rv q => h pins s σ H xs us Q I rv (i _ _ _ q)
/-! ### len, list, tuple -/
def fLen : List Dt → Option Vl
  | [.l xs] => some (.i xs.length, .c)
  | [.t xs] => some (.i xs.length, .c)
  | [.z xs] => some (.i xs.length, .c)
  | [.s x] => if x.length ≤ LIM then some (.i x.length, .c) else none
  | _ => none
def rLen (K : PySem.W.Frag) : List V → Hp → VK → Prop := fun xs H Q => (∃ p ys, xs = [.ref p] ∧ (SqL K H p ys ∨ SqT K H p ys) ∧ Q (.int ys.length) H) ∨ (∃ z, xs = [.str z] ∧ z.length ≤ sizeLine ∧ Q (.int z.length) H)
theorem cr_len : CallR X (.builtin "len") (rLen X.K) := call_len_seq.or call_len_str
theorem pr_len : Pr K (rLen K) fLen := fun M H vs xs x m Q ht c hf k => by
  unfold fLen at hf
  split at hf
  · cases hf
    obtain ⟨v, rfl, c1⟩ := c.one
    obtain ⟨a, us, rfl, h1, q1⟩ := c1.lst
    exact .inl ⟨a, us, rfl, .inl (.inl (.inl h1)), by rw [q1.len]; exact k _ _ _ (mk_c ht (.i _))⟩
  · cases hf
    obtain ⟨v, rfl, c1⟩ := c.one
    obtain ⟨a, us, rfl, h1, q1⟩ := c1.tup
    exact .inl ⟨a, us, rfl, .inr h1, by rw [q1.len]; exact k _ _ _ (mk_c ht (.i _))⟩
  · cases hf
    obtain ⟨v, rfl, c1⟩ := c.one
    obtain ⟨a, us, rfl, h1, q1⟩ := c1.frz
    exact .inl ⟨a, us, rfl, .inl (h1.sq), by rw [q1.len]; exact k _ _ _ (mk_c ht (.i _))⟩
  · split at hf
    · rename_i hz
      cases hf
      obtain ⟨v, rfl, c1⟩ := c.one
      exact .inr ⟨_, by rw [c1.str], lim_size hz, k _ _ _ (mk_c ht (.i _))⟩
    · cases hf
  · cases hf
def fList : List Dt → Option Vl
  | [.l xs] => some (.l xs, .t)
  | [.t xs] => some (.l xs, .t)
  | [.z xs] => some (.l xs, .t)
  | _ => none
theorem pr_list : Pr K (fun xs H Q => ∃ p ys, xs = [.ref p] ∧ (SqL K H p ys ∨ SqT K H p ys) ∧ ∀ l, H l = none → Q (.ref l) (upd H l (.lst ys))) fList := fun M H vs xs x m Q ht c hf k => by
  unfold fList at hf
  split at hf
  · cases hf
    obtain ⟨v, rfl, c1⟩ := c.one
    obtain ⟨a, us, rfl, h1, q1⟩ := c1.lst
    exact ⟨a, us, rfl, .inl (.inl (.inl h1)), fun l hl => k _ _ _ (mk_lst ht hl q1)⟩
  · cases hf
    obtain ⟨v, rfl, c1⟩ := c.one
    obtain ⟨a, us, rfl, h1, q1⟩ := c1.tup
    exact ⟨a, us, rfl, .inr h1, fun l hl => k _ _ _ (mk_lst ht hl q1)⟩
  · cases hf
    obtain ⟨v, rfl, c1⟩ := c.one
    obtain ⟨a, us, rfl, h1, q1⟩ := c1.frz
    exact ⟨a, us, rfl, .inl (h1.sq), fun l hl => k _ _ _ (mk_lst ht hl q1)⟩
  · cases hf
def fTuple : List Dt → Option Vl
  | [.l xs] => some (.t xs, .c)
  | [.t xs] => some (.t xs, .c)
  | [.z xs] => some (.t xs, .c)
  | _ => none
theorem pr_tuple : Pr K (fun xs H Q => ∃ p ys, xs = [.ref p] ∧ ((SqL K H p ys ∧ ∀ l, H l = none → Q (.ref l) (upd H l (.tup ys))) ∨ (SqT K H p ys ∧ Q (.ref p) H))) fTuple := fun M H vs xs x m Q ht c hf k => by
  unfold fTuple at hf
  split at hf
  · cases hf
    obtain ⟨v, rfl, c1⟩ := c.one
    obtain ⟨a, us, rfl, h1, q1⟩ := c1.lst
    exact ⟨a, us, rfl, .inl ⟨.inl (.inl h1), fun l hl => k _ _ _ (mk_tup ht hl q1)⟩⟩
  · cases hf
    obtain ⟨v, rfl, c1⟩ := c.one
    obtain ⟨a, us, rfl, h1, q1⟩ := c1.tup
    exact ⟨a, us, rfl, .inr ⟨h1, k _ _ _ (mk_c ht c1)⟩⟩
  · cases hf
    obtain ⟨v, rfl, c1⟩ := c.one
    obtain ⟨a, us, rfl, h1, q1⟩ := c1.frz
    exact ⟨a, us, rfl, .inl ⟨h1.sq, fun l hl => k _ _ _ (mk_tup ht hl q1)⟩⟩
  · cases hf
/-! ### numbers by built-ins -/
def fAbs : List Dt → Option Vl
  | [.i a] => some (.i (if a < 0 then -a else a), .c)
  | _ => none
theorem pr_abs : Pr K (fun xs H Q => ∃ i, xs = [.int i] ∧ Q (.int (if i < 0 then -i else i)) H) fAbs := fun M H vs xs x m Q ht c hf k => by
  unfold fAbs at hf
  split at hf
  · cases hf
    obtain ⟨v, rfl, c1⟩ := c.one
    exact ⟨_, by rw [c1.int], k _ _ _ (mk_c ht (.i _))⟩
  · cases hf
def fMax2 : List Dt → Option Vl
  | [.i a, .i b] => some (.i (if b > a then b else a), .c)
  | _ => none
def fMin2 : List Dt → Option Vl
  | [.i a, .i b] => some (.i (if b < a then b else a), .c)
  | _ => none
theorem pr_max2 : Pr K (fun xs H Q => ∃ i j, xs = [.int i, .int j] ∧ Q (.int (if j > i then j else i)) H) fMax2 := fun M H vs xs x m Q ht c hf k => by
  unfold fMax2 at hf
  split at hf
  · cases hf
    obtain ⟨v, w, rfl, c1, c2⟩ := c.two
    exact ⟨_, _, by rw [c1.int, c2.int], k _ _ _ (mk_c ht (.i _))⟩
  · cases hf
theorem pr_min2 : Pr K (fun xs H Q => ∃ i j, xs = [.int i, .int j] ∧ Q (.int (if j < i then j else i)) H) fMin2 := fun M H vs xs x m Q ht c hf k => by
  unfold fMin2 at hf
  split at hf
  · cases hf
    obtain ⟨v, w, rfl, c1, c2⟩ := c.two
    exact ⟨_, _, by rw [c1.int, c2.int], k _ _ _ (mk_c ht (.i _))⟩
  · cases hf
def fInt : List Dt → Option Vl
  | [.i a] => some (.i a, .c)
  | [.b a] => some (.i (if a then 1 else 0), .c)
  | _ => none
theorem pr_int : Pr K (fun xs H Q => (∃ i, xs = [.int i] ∧ Q (.int i) H) ∨ ∃ k, xs = [.bl k] ∧ Q (.int (if k then 1 else 0)) H) fInt := fun M H vs xs x m Q ht c hf k => by
  unfold fInt at hf
  split at hf
  · cases hf
    obtain ⟨v, rfl, c1⟩ := c.one
    exact .inl ⟨_, by rw [c1.int], k _ _ _ (mk_c ht (.i _))⟩
  · cases hf
    obtain ⟨v, rfl, c1⟩ := c.one
    exact .inr ⟨_, by rw [c1.bl], k _ _ _ (mk_c ht (.i _))⟩
  · cases hf
/-! ### over lists of numbers, of truths -/
def intsL : List Dt → Option (List Int)
  | [] => some []
  | .i a :: xs => (intsL xs).map (a :: ·)
  | _ => none
def blsL : List Dt → Option (List Bool)
  | [] => some []
  | .b a :: xs => (blsL xs).map (a :: ·)
  | _ => none
theorem CoL.intsL : ∀ {vs : List V} {xs : List Dt} {ns : List Int}, CoL K M H vs xs → intsL xs = some ns → vs = ns.map V.int
  | _, _, _, .nil, h => by simp [Y.intsL] at h; subst h; rfl
  | _, x :: xs, _, .cons h q, e => by
    cases x with
    | i a =>
      simp only [Y.intsL, Option.map_eq_some_iff] at e
      obtain ⟨ns, e, rfl⟩ := e
      rw [h.int, CoL.intsL q e]; rfl
    | _ => simp [Y.intsL] at e
theorem CoL.blsL : ∀ {vs : List V} {xs : List Dt} {ns : List Bool}, CoL K M H vs xs → blsL xs = some ns → vs = ns.map V.bl
  | _, _, _, .nil, h => by simp [Y.blsL] at h; subst h; rfl
  | _, x :: xs, _, .cons h q, e => by
    cases x with
    | b a =>
      simp only [Y.blsL, Option.map_eq_some_iff] at e
      obtain ⟨ns, e, rfl⟩ := e
      rw [h.bl, CoL.blsL q e]; rfl
    | _ => simp [Y.blsL] at e
theorem ints_map (ns : List Int) : intsL (ns.map .i) = some ns := by
  induction ns with
  | nil => rfl
  | cons a ns ih => simp [intsL, ih]
theorem bls_map (ns : List Bool) : blsL (ns.map .b) = some ns := by
  induction ns with
  | nil => rfl
  | cons a ns ih => simp [blsL, ih]
def fSum : List Dt → Option Vl
  | [.l xs] => (intsL xs).map fun ns => (.i ns.sum, .c)
  | _ => none
theorem pr_sum : Pr K (rSum K) fSum := fun M H vs xs x m Q ht c hf k => by
  unfold fSum at hf
  split at hf
  · simp only [Option.map_eq_some_iff, Prod.mk.injEq] at hf
    obtain ⟨ns, hn, rfl, rfl⟩ := hf
    obtain ⟨v, rfl, c1⟩ := c.one
    obtain ⟨a, us, rfl, h1, q1⟩ := c1.lst
    have e := q1.intsL hn
    subst e
    exact ⟨a, ns, rfl, .inl (.inl h1), k _ _ _ (mk_c ht (.i _))⟩
  · cases hf
def lmax : Int → List Int → Int
  | a, [] => a
  | a, b :: xs => lmax (if b > a then b else a) xs
def lmin : Int → List Int → Int
  | a, [] => a
  | a, b :: xs => lmin (if b < a then b else a) xs
theorem lmax_spec : ∀ (xs : List Int) (a : Int), (lmax a xs = a ∨ lmax a xs ∈ xs) ∧ a ≤ lmax a xs ∧ ∀ y ∈ xs, y ≤ lmax a xs
  | [], a => ⟨.inl rfl, Int.le_refl _, fun _ h => nomatch h⟩
  | b :: xs, a => by
    obtain ⟨h1, h2, h3⟩ := lmax_spec xs (if b > a then b else a)
    simp only [lmax]
    by_cases q : b > a
    · simp only [if_pos q] at h1 h2 h3 ⊢
      refine ⟨?_, by omega, fun y hy => ?_⟩
      · rcases h1 with h1 | h1
        · exact .inr (by rw [h1]; exact List.mem_cons_self)
        · exact .inr (List.mem_cons_of_mem _ h1)
      · rcases List.mem_cons.mp hy with e | hy
        · rw [e]; exact h2
        · exact h3 y hy
    · simp only [if_neg q] at h1 h2 h3 ⊢
      refine ⟨?_, h2, fun y hy => ?_⟩
      · rcases h1 with h1 | h1
        · exact .inl h1
        · exact .inr (List.mem_cons_of_mem _ h1)
      · rcases List.mem_cons.mp hy with e | hy
        · rw [e]; omega
        · exact h3 y hy
theorem lmin_spec : ∀ (xs : List Int) (a : Int), (lmin a xs = a ∨ lmin a xs ∈ xs) ∧ lmin a xs ≤ a ∧ ∀ y ∈ xs, lmin a xs ≤ y
  | [], a => ⟨.inl rfl, Int.le_refl _, fun _ h => nomatch h⟩
  | b :: xs, a => by
    obtain ⟨h1, h2, h3⟩ := lmin_spec xs (if b < a then b else a)
    simp only [lmin]
    by_cases q : b < a
    · simp only [if_pos q] at h1 h2 h3 ⊢
      refine ⟨?_, by omega, fun y hy => ?_⟩
      · rcases h1 with h1 | h1
        · exact .inr (by rw [h1]; exact List.mem_cons_self)
        · exact .inr (List.mem_cons_of_mem _ h1)
      · rcases List.mem_cons.mp hy with e | hy
        · rw [e]; exact h2
        · exact h3 y hy
    · simp only [if_neg q] at h1 h2 h3 ⊢
      refine ⟨?_, h2, fun y hy => ?_⟩
      · rcases h1 with h1 | h1
        · exact .inl h1
        · exact .inr (List.mem_cons_of_mem _ h1)
      · rcases List.mem_cons.mp hy with e | hy
        · rw [e]; omega
        · exact h3 y hy
def fMax1 : List Dt → Option Vl
  | [.l xs] => match intsL xs with
    | some (a :: ns) => some (.i (lmax a ns), .c)
    | _ => none
  | [.t xs] => match intsL xs with
    | some (a :: ns) => some (.i (lmax a ns), .c)
    | _ => none
  | _ => none
def fMin1 : List Dt → Option Vl
  | [.l xs] => match intsL xs with
    | some (a :: ns) => some (.i (lmin a ns), .c)
    | _ => none
  | [.t xs] => match intsL xs with
    | some (a :: ns) => some (.i (lmin a ns), .c)
    | _ => none
  | _ => none
theorem dp_ints {H : Hp} : ∀ ns : List Int, DpAll K H (ns.map V.int) (ns.map PyData.int)
  | [] => .nil
  | n :: ns => .cons (.int n) (dp_ints ns)
theorem depth_ints : ∀ ns : List Int, PyData.depthAll (ns.map PyData.int) = 0
  | [] => rfl
  | n :: ns => by simp [PyData.depthAll, PyData.depth, depth_ints ns]
theorem alike_ints (ns : List Int) : PySem.W.AlikeAll (ns.map PyData.int) := by
  refine ⟨fun x hx y hy => ?_, fun x hx => ?_⟩
  · obtain ⟨a, _, rfl⟩ := List.mem_map.mp hx
    obtain ⟨b, _, rfl⟩ := List.mem_map.mp hy
    rfl
  · obtain ⟨a, _, rfl⟩ := List.mem_map.mp hx
    exact fun h => nomatch h
theorem lmax_fold : ∀ (ns : List Int) (b : Int), lmax b ns = ns.foldl max b
  | [], b => rfl
  | n :: ns, b => by
    show lmax _ ns = _
    rw [lmax_fold ns, List.foldl_cons]
    congr 1
    by_cases h : n > b
    · rw [if_pos h]; omega
    · rw [if_neg h]; omega
theorem lmin_fold : ∀ (ns : List Int) (b : Int), lmin b ns = ns.foldl min b
  | [], b => rfl
  | n :: ns, b => by
    show lmin _ ns = _
    rw [lmin_fold ns, List.foldl_cons]
    congr 1
    by_cases h : n < b
    · rw [if_pos h]; omega
    · rw [if_neg h]; omega
def rMaxT (K : PySem.W.Frag) : List V → Hp → VK → Prop := fun vs H Q => ∃ (a : Addr) (b : Int) (ns : List Int), vs = [.ref a] ∧ SqT K H a ((b :: ns).map V.int) ∧ Q (.int (lmax b ns)) H
def rMinT (K : PySem.W.Frag) : List V → Hp → VK → Prop := fun vs H Q => ∃ (a : Addr) (b : Int) (ns : List Int), vs = [.ref a] ∧ SqT K H a ((b :: ns).map V.int) ∧ Q (.int (lmin b ns)) H
def rMaxA (K : PySem.W.Frag) : List V → Hp → VK → Prop := fun vs H Q => rMax K vs H Q ∨ rMaxT K vs H Q
def rMinA (K : PySem.W.Frag) : List V → Hp → VK → Prop := fun vs H Q => rMin K vs H Q ∨ rMinT K vs H Q
theorem cr_maxT {X : Cx} (hc : X.calm = true) (hu : X.A.units + 64 < cLine) : CallR X (.builtin "max") (rMaxT X.K) := by
  intro pins s σ H xs us Q I r h
  obtain ⟨a, b, ns, rfl, hs, q⟩ := h
  obtain ⟨its, rv, hl, _⟩ := I.tuple hs
  rw [Vals.ref1 r]
  obtain ⟨as, rd⟩ := Dp.readsAll I _ _ _ (dp_ints (b :: ns)) rv
  refine PySem.W.max_tuple_data (I.ok.hd hc) hl (x := .int b) (xs := ns.map .int) (by simpa using rd) (alike_ints (b :: ns)) (by have := depth_ints (b :: ns); simp only [List.map_cons] at this; rw [this]; omega) fun i v h' tk bs _ hr hk => ?_
  rw [PySem.W.maxD_ints, ← lmax_fold] at hr
  cases hr with
  | int t => exact ⟨.int _, H, I.kept hk, ⟨_, rfl⟩, q⟩
theorem cr_minT {X : Cx} (hc : X.calm = true) (hu : X.A.units + 64 < cLine) : CallR X (.builtin "min") (rMinT X.K) := by
  intro pins s σ H xs us Q I r h
  obtain ⟨a, b, ns, rfl, hs, q⟩ := h
  obtain ⟨its, rv, hl, _⟩ := I.tuple hs
  rw [Vals.ref1 r]
  obtain ⟨as, rd⟩ := Dp.readsAll I _ _ _ (dp_ints (b :: ns)) rv
  refine PySem.W.min_tuple_data (I.ok.hd hc) hl (x := .int b) (xs := ns.map .int) (by simpa using rd) (alike_ints (b :: ns)) (by have := depth_ints (b :: ns); simp only [List.map_cons] at this; rw [this]; omega) fun i v h' tk bs _ hr hk => ?_
  rw [PySem.W.minD_ints, ← lmin_fold] at hr
  cases hr with
  | int t => exact ⟨.int _, H, I.kept hk, ⟨_, rfl⟩, q⟩
theorem or_max {X : Cx} (hc : X.calm = true) (hu : X.A.units + 64 < cLine) : CallR X (.builtin "max") (rMaxA X.K) := (cr_max hc).or (cr_maxT hc hu)
theorem or_min {X : Cx} (hc : X.calm = true) (hu : X.A.units + 64 < cLine) : CallR X (.builtin "min") (rMinA X.K) := (cr_min hc).or (cr_minT hc hu)
theorem pr_max1 : Pr K (rMaxA K) fMax1 := fun M H vs xs x m Q ht c hf k => by
  unfold fMax1 at hf
  split at hf
  · split at hf
    · rename_i b ns hn
      cases hf
      obtain ⟨v, rfl, c1⟩ := c.one
      obtain ⟨a, us, rfl, h1, q1⟩ := c1.lst
      have e := q1.intsL hn
      subst e
      refine .inl ⟨a, b :: ns, rfl, .inl (.inl h1), by simp, fun z hz hle => ?_⟩
      obtain ⟨s1, s2, s3⟩ := lmax_spec ns b
      have e : z = lmax b ns := by
        have l1 : lmax b ns ≤ z := hle _ (by rcases s1 with s1 | s1 <;> simp [s1])
        rcases List.mem_cons.mp hz with e | hz
        · subst e; omega
        · have := s3 z hz; omega
      rw [e]
      exact k _ _ _ (mk_c ht (.i _))
    · cases hf
  · split at hf
    · rename_i b ns hn
      cases hf
      obtain ⟨v, rfl, c1⟩ := c.one
      obtain ⟨a, us, rfl, h1, q1⟩ := c1.tup
      have e := q1.intsL hn
      subst e
      exact .inr ⟨a, b, ns, rfl, h1, k _ _ _ (mk_c ht (.i _))⟩
    · cases hf
  · cases hf
theorem pr_min1 : Pr K (rMinA K) fMin1 := fun M H vs xs x m Q ht c hf k => by
  unfold fMin1 at hf
  split at hf
  · split at hf
    · rename_i b ns hn
      cases hf
      obtain ⟨v, rfl, c1⟩ := c.one
      obtain ⟨a, us, rfl, h1, q1⟩ := c1.lst
      have e := q1.intsL hn
      subst e
      refine .inl ⟨a, b :: ns, rfl, .inl (.inl h1), by simp, fun z hz hle => ?_⟩
      obtain ⟨s1, s2, s3⟩ := lmin_spec ns b
      have e : z = lmin b ns := by
        have l1 : z ≤ lmin b ns := hle _ (by rcases s1 with s1 | s1 <;> simp [s1])
        rcases List.mem_cons.mp hz with e | hz
        · subst e; omega
        · have := s3 z hz; omega
      rw [e]
      exact k _ _ _ (mk_c ht (.i _))
    · cases hf
  · split at hf
    · rename_i b ns hn
      cases hf
      obtain ⟨v, rfl, c1⟩ := c.one
      obtain ⟨a, us, rfl, h1, q1⟩ := c1.tup
      have e := q1.intsL hn
      subst e
      exact .inr ⟨a, b, ns, rfl, h1, k _ _ _ (mk_c ht (.i _))⟩
    · cases hf
  · cases hf
def fAll : List Dt → Option Vl
  | [.l xs] => (blsL xs).map fun bs => (.b (bs.all id), .c)
  | _ => none
def fAny : List Dt → Option Vl
  | [.l xs] => (blsL xs).map fun bs => (.b (bs.any id), .c)
  | _ => none
theorem pr_all : Pr K (rAll K) fAll := fun M H vs xs x m Q ht c hf k => by
  unfold fAll at hf
  split at hf
  · simp only [Option.map_eq_some_iff, Prod.mk.injEq] at hf
    obtain ⟨ns, hn, rfl, rfl⟩ := hf
    obtain ⟨v, rfl, c1⟩ := c.one
    obtain ⟨a, us, rfl, h1, q1⟩ := c1.lst
    have e := q1.blsL hn
    subst e
    exact ⟨a, ns, rfl, .inl (.inl h1), k _ _ _ (mk_c ht (.b _))⟩
  · cases hf
theorem pr_any : Pr K (rAny K) fAny := fun M H vs xs x m Q ht c hf k => by
  unfold fAny at hf
  split at hf
  · simp only [Option.map_eq_some_iff, Prod.mk.injEq] at hf
    obtain ⟨ns, hn, rfl, rfl⟩ := hf
    obtain ⟨v, rfl, c1⟩ := c.one
    obtain ⟨a, us, rfl, h1, q1⟩ := c1.lst
    have e := q1.blsL hn
    subst e
    exact ⟨a, ns, rfl, .inl (.inl h1), k _ _ _ (mk_c ht (.b _))⟩
  · cases hf
/-! ### slices -/
def cutD (xs : List Dt) (lo hi : Option Int) : List Dt := (xs.drop (HT.sIx xs.length 0 lo)).take (HT.sIx xs.length xs.length hi - HT.sIx xs.length 0 lo)
def optI : Dt → Option (Option Int)
  | .n => some none
  | .i a => some (some a)
  | _ => none
theorem CoL.take {vs : List V} {xs : List Dt} (c : CoL K M H vs xs) : ∀ n, CoL K M H (vs.take n) (xs.take n) := by
  induction c using CoL.rec (motive_1 := fun _ _ _ => True) with
  | nil => intro n; simp; exact .nil
  | cons h q _ ih =>
    intro n
    cases n with
    | zero => exact .nil
    | succ n => exact .cons h (ih n)
  | _ => trivial
theorem CoL.drop {vs : List V} {xs : List Dt} (c : CoL K M H vs xs) : ∀ n, CoL K M H (vs.drop n) (xs.drop n) := by
  induction c using CoL.rec (motive_1 := fun _ _ _ => True) with
  | nil => intro n; simp; exact .nil
  | cons h q _ ih =>
    intro n
    cases n with
    | zero => exact .cons h q
    | succ n => exact ih n
  | _ => trivial
theorem CoL.cut {vs : List V} {xs : List Dt} (c : CoL K M H vs xs) (lo hi : Option Int) : CoL K M H (cutV vs lo hi) (cutD xs lo hi) := by
  unfold cutV cutD
  rw [c.len]
  exact (c.drop _).take _
/-- x[lo:hi] -/
def fSl (lo hi : Option Int) : Dt → Option Vl
  | .l xs => some (.l (cutD xs lo hi), .t)
  | .z xs => some (.l (cutD xs lo hi), .t)
  | .t xs => some (.t (cutD xs lo hi), .c)
  | _ => none
def rSlAll (K : PySem.W.Frag) : V → Option Int → Option Int → Hp → VK → Prop := fun x lo hi H Q => rSlL K x lo hi H Q ∨ rSlA K x lo hi H Q
theorem sl_all : SlR X (rSlAll X.K) := sl_list.or sl_tupA
theorem pr_sl {lo hi : Option Int} {v : V} {x y : Dt} {m : Md} {Q : VK} (ht : Hotty M H) (c : Co K M H v x) (hf : fSl lo hi x = some (y, m)) (k : ∀ v H' F, Mk K H M v y m H' F → Q v H') : rSlAll K v lo hi H Q := by
  unfold fSl at hf
  split at hf
  · cases hf
    obtain ⟨a, us, rfl, h1, q1⟩ := c.lst
    exact .inl ⟨a, us, rfl, .inl (.inl h1), fun p hp => k _ _ _ (mk_lst ht hp (q1.cut lo hi))⟩
  · cases hf
    obtain ⟨a, us, rfl, h1, q1⟩ := c.frz
    exact .inl ⟨a, us, rfl, h1.sq, fun p hp => k _ _ _ (mk_lst ht hp (q1.cut lo hi))⟩
  · cases hf
    obtain ⟨a, us, rfl, h1, q1⟩ := c.tup
    have cu := q1.cut lo hi
    refine .inr ⟨a, us, rfl, h1, fun hw => ?_, fun _ p hp => k _ _ _ (mk_tup ht hp cu)⟩
    have e : cutV us lo hi = us := by
      unfold cutV
      rw [hw.1, hw.2]
      simp
    rw [e] at cu
    exact k _ _ _ (mk_c ht (.t h1 cu))
  · cases hf
def evP : Option (Ev → Ou Vl) → Ev → Ou (Option Int)
  | none, r => .ok none r
  | some f, r => match f r with
    | .ok (.i n, _) r' => .ok (some n) r'
    | .ok _ _ => .no
    | .ex c fs r' => .ex c fs r'
    | .no => .no
inductive JP (X : Cx) (cl : Str → Addr) (W : WX) : Option Expr → Option (Ev → Ou Vl) → Prop
  | none : JP X cl W none none
  | some {e : Expr} {f : Ev → Ou Vl} : JE X cl W e f → JP X cl W (some e) (some f)
def tPt (K : PySem.W.Frag) (cl : Str → Addr) (W : WX) : Option (Ev → Ou Vl) → TO
  | none => tNoPart
  | some f => tPart (tI K cl W f)
variable {cl : Str → Addr} {W : WX} {σ : L2.St}
theorem JP.po {o : Option Expr} {p : Option (Ev → Ou Vl)} (h : JP X cl W o p) (tk : Takes X W) : PO X o (tPt X.K cl W p) := by
  cases h with
  | none => exact po_none
  | some h => exact po_some (h tk)
theorem tPt_ok {p : Option (Ev → Ou Vl)} {r : Ev} {G : Nat → List Addr} {Q : Option Int → Hp → Prop} (e : ER K r σ G M H)
    (h : match evP p r with
      | .ok o r' => ∀ H' M' G', ER K r' σ G' M' H' → Evo H M G H' M' G' [] → Q o H'
      | .ex c fs r' => ∀ d H' M' G', XX K r' σ H M G fs d H' M' G' → W (.ref (cl c)) d σ H'
      | .no => False) : tPt K cl W p σ H Q := by
  cases p with
  | none => exact h H M G e .refl
  | some f =>
    show tI K cl W f σ H _
    refine ⟨r, M, G, e, ?_⟩
    simp only [evP] at h
    cases hf : f r with
    | no => rw [hf] at h; exact h
    | ex c fs r' => rw [hf] at h; exact h
    | ok xm r' =>
      obtain ⟨x, m⟩ := xm
      rw [hf] at h
      intro v H' M' G' F p
      cases x with
      | i n =>
        obtain ⟨M2, e2, v2, c2⟩ := p.giveUp e.hot
        exact ⟨n, c2.int, h H' M2 G' e2 v2⟩
      | _ => exact h.elim
def mSl (A : Am) (lo hi : Option (Ev → Ou Vl)) : Ev → Ou Vl := fun r => match evA [A] r with
  | .ok ys r1 => match evP lo r1 with
    | .ok l r2 => match evP hi r2 with
      | .ok u r3 => match look r3 ys with
        | some [x] => match fSl l u x with
          | some (y, m) => .ok (y, m) (if y.flat then r3 else frz ys r3)
          | none => .no
        | _ => .no
      | .ex c fs r3 => .ex c fs r3
      | .no => .no
    | .ex c fs r2 => .ex c fs r2
    | .no => .no
  | .ex c fs r1 => .ex c fs r1
  | .no => .no
theorem mSl_ok {A : Am} {lo hi : Option (Ev → Ou Vl)} {Q : VK} (h : tI K cl W (mSl A lo hi) σ H Q) : tSl (rSlAll K) (tO K cl W A) (tPt K cl W lo) (tPt K cl W hi) σ H Q := by
  obtain ⟨r, M, G, e, h⟩ := h
  show tOs K cl W [A] σ H fun vs H1 => ap1 (fun x H1 _ => tPt K cl W lo σ H1 fun l H2 => tPt K cl W hi σ H2 fun u H3 => rSlAll K x l u H3 Q) vs H1 Q
  refine tOs_ok [A] e ?_
  simp only [mSl] at h
  cases ha : evA [A] r with
  | no => rw [ha] at h; exact h
  | ex c fs r1 => rw [ha] at h; exact h
  | ok ys r1 =>
  rw [ha] at h
  intro vs H1 M1 G1 e1 v1 a1
  have hlen : vs.length = 1 := by rw [a1.len, evA_len _ ha]; rfl
  match vs, hlen, a1 with
  | [v], _, a1 =>
  show tPt K cl W lo σ H1 _
  refine tPt_ok e1 ?_
  simp only at h
  cases hlo : evP lo r1 with
  | no => rw [hlo] at h; exact h
  | ex c fs r2 => rw [hlo] at h; exact fun d H' M' G' p => h d H' M' G' ⟨p.er, v1.trans e.hot p.ev, p.xd⟩
  | ok l r2 =>
  rw [hlo] at h
  intro H2 M2 G2 e2 v2
  have v12 := v1.trans e.hot v2
  refine tPt_ok e2 ?_
  simp only at h
  cases hhi : evP hi r2 with
  | no => rw [hhi] at h; exact h
  | ex c fs r3 => rw [hhi] at h; exact fun d H' M' G' p => h d H' M' G' ⟨p.er, v12.trans e.hot p.ev, p.xd⟩
  | ok u r3 =>
  rw [hhi] at h
  intro H3 M3 G3 e3 v3
  have v13 := v12.trans e.hot v3
  have a3 : AgL K M3 H3 σ [v] ys := (a1.fm (e1.fm v2)).fm (e2.fm v3)
  simp only at h
  cases hl : look r3 ys with
  | none => rw [hl] at h; exact h.elim
  | some xs =>
  rw [hl] at h
  have cc : CoL K (fun b => M3 b ∧ b ∉ owns G3 ys) H3 [v] xs := look_cold e3 (fun b z => z.1) (fun b hb z => z.2 hb) a3 hl
  have ht3 : Hotty (fun b => M3 b ∧ b ∉ owns G3 ys) H3 := fun b z => e3.hot b z.1
  cases cc with
  | @cons _ _ x _ c1 c2 =>
  cases c2
  simp only at h
  cases hf : fSl l u x with
  | none => rw [hf] at h; exact h.elim
  | some ym =>
  obtain ⟨y, m⟩ := ym
  rw [hf] at h
  simp only at h
  by_cases hx : y.flat = true
  · rw [if_pos hx] at h
    exact pr_sl ht3 c1 hf fun v H4 F p => h v H4 _ _ F (p.px e3 v13 e.hot hx)
  · rw [if_neg hx] at h
    obtain ⟨G4, e4, s4⟩ := e3.frz ys
    have v4 : Evo H3 M3 G3 H3 (fun b => M3 b ∧ b ∉ owns G3 ys) G4 [] := ⟨fun _ _ h _ => h, fun _ h => h, fun b z => .inl z.1, fun b h hb => ⟨h, fun z => let ⟨i, q⟩ := mem_owns z; hb i q⟩, fun i b hb => .inl ⟨i, s4 i b hb⟩, fun _ h => nomatch h⟩
    exact pr_sl ht3 c1 hf fun v H4 F p => h v H4 _ _ F (p.px2 e4 (v13.trans e.hot v4) e.hot)
theorem je_sl {e : Expr} {lo hi : Option Expr} {A : Am} {pl ph : Option (Ev → Ou Vl)} {p2 pos : Pos} (he : JO X cl W e A) (hl : JP X cl W lo pl) (hh : JP X cl W hi ph) : JE X cl W (.Subscript e (.Slice lo hi none p2) pos) (mSl A pl ph) := fun tk =>
  (pe_slice sl_all (he.pe tk) (hl.po tk) (hh.po tk)).yimp fun _ _ _ q => mSl_ok q
end
end Y
/-! Y, part R: lists changed in place. -/
namespace Y
open PySem L2 PyProof.Rows
section
variable {K : PySem.W.Frag} {cl : Str → Addr} {W : WX} {io : Bool} {M M' M0 : Addr → Prop} {H H' H0 : Hp} {G G' G0 : Nat → List Addr} {r r' : Ev} {σ σ0 : L2.St} {D : Ends}
/-- one slot's lists are changed -/
theorem ER.wr {i : Nat} {v : V} {x' : Dt} {m' : Md} {F' : List Addr} (e : ER K r σ G M H) (hv : σ[i]? = some (some v)) (same : ∀ b o, H b = some o → b ∉ G i → H' b = some o) (grow : ∀ b, M' b → M b ∨ H b = none)
    (keep : ∀ j b, j ≠ i → b ∈ G j → M' b) (hot : Hotty M' H') (rp : Rp K M' H' m' v x' F') (nd : F'.Nodup) (k : ∀ b ∈ F', M' b ∧ ∀ j, j ≠ i → b ∉ G j) :
    ER K (r.set i (some (x', m'))) σ (fun j => if j = i then F' else G j) M' H' := by
  have e2 : ER K (r.set i none) σ (fun j => if j = i then [] else G j) M' H' := (e.drop i).evoF (fun b o h z => same b o h fun q => by
    rcases z with z | ⟨j, z⟩
    · exact z (e.sub i b q)
    · by_cases y : j = i
      · simp [y] at z
      · simp only [if_neg y] at z
        exact e.dj j i y b z q) grow (fun j b hb => by
    by_cases y : j = i
    · simp [y] at hb
    · simp only [if_neg y] at hb
      exact keep j b y hb) hot
  have e3 := put_back hv e2 rp nd fun b hb => ⟨(k b hb).1, fun j hj => by
    by_cases y : j = i
    · simp [y] at hj
    · simp only [if_neg y] at hj
      exact (k b hb).2 j y hj⟩
  rw [List.set_set] at e3
  have g : (fun j => if j = i then F' else if j = i then [] else G j) = fun j => if j = i then F' else G j := by
    funext j; by_cases y : j = i <;> simp [y]
  rw [g] at e3
  exact e3
theorem SqT.up {a b : Addr} {us vs : List V} {u : HO} (h : SqT K H b vs) (ha : H a = some (.lst us)) : SqT K (upd H a u) b vs := by
  rcases h with h | h
  · refine .inl ?_
    have nb : b ≠ a := fun q => by
      rw [q] at h
      rcases h with h | ⟨o, h⟩ <;> (rw [ha] at h; cases h)
    rcases h with h | ⟨o, h⟩
    · exact .inl (by rw [upd_ne nb]; exact h)
    · exact .inr ⟨o, by rw [upd_ne nb]; exact h⟩
  · exact .inr h
theorem rd_up {a b : Addr} {us vs : List V} {u : HO} (h : Rd H b (.tup vs)) (ha : H a = some (.lst us)) : Rd (upd H a u) b (.tup vs) := by
  have nb : b ≠ a := fun q => by
    rw [q] at h
    rcases h with h | ⟨o, h⟩ <;> (rw [ha] at h; cases h)
  rcases h with h | ⟨o, h⟩
  · exact .inl (by rw [upd_ne nb]; exact h)
  · exact .inr ⟨o, by rw [upd_ne nb]; exact h⟩
theorem frz_up {a b : Addr} {us : List V} {u w : HO} {o : Obj} (h : H b = some (.frz o w)) (ha : H a = some (.lst us)) : upd H a u b = some (.frz o w) := by
  have nb : b ≠ a := fun q => by rw [q, ha] at h; cases h
  rw [upd_ne nb]; exact h
theorem Ho.up {a : Addr} {us : List V} {u : HO} {v : V} {x : Dt} {F : List Addr} (h : Ho K H v x F) (ha : H a = some (.lst us)) (hn : a ∉ F) : Ho K (upd H a u) v x F :=
  h.stay (fun b xs z => rd_up z ha) (fun b o w z => frz_up z ha) fun b hb => upd_ne fun q => hn (q ▸ hb)
theorem HoL.up {a : Addr} {us : List V} {u : HO} {v : List V} {x : List Dt} {F : List Addr} (h : HoL K H v x F) (ha : H a = some (.lst us)) (hn : a ∉ F) : HoL K (upd H a u) v x F :=
  h.stay (fun b xs z => rd_up z ha) (fun b o w z => frz_up z ha) fun b hb => upd_ne fun q => hn (q ▸ hb)
theorem fm_up {a : Addr} {us ws : List V} (ht : Hotty M H) (ha : M a) (h : H a = some (.lst us)) : Fm M H M (upd H a (.lst ws)) :=
  ⟨fun b o e hn => by rw [upd_ne fun q => hn (by rw [q]; exact ha)]; exact e, fun b z => .inl z, ht⟩
theorem hot_up {a : Addr} {ws : List V} (ht : Hotty M H) : Hotty M (upd H a (.lst ws)) := fun b z => by
  by_cases q : b = a
  · rw [q]; exact ⟨_, upd_same⟩
  · rw [upd_ne q]; exact ht b z
/-- a list's items after one more -/
def apL : Vl → Vl → Option Vl
  | (.l xs, .t), y => if xs.length < LIM then some (.l (xs ++ [y.1]), .t) else none
  | (.l xs, .a), y => if xs.length < LIM ∧ zfl y = true then some (.l (xs ++ [y.1]), .a) else none
  | _, _ => none
def sApp (i : Nat) (f : Ev → Ou Vl) : Ev → So := sWith f fun y r => match r[i]? with
  | some (some x) => match apL x y with
    | some x' => .nx (r.set i (some x'))
    | none => .no
  | _ => .no
theorem lim_lt {n : Nat} (h : n < LIM) : n < sizeLine := Nat.lt_of_lt_of_le h (by decide)
/-- what the machine does with a list that grows by one: the heap alone -/
theorem ap_go {i : Nat} {x x' : Vl} {y : Dt} {my : Md} {w v : V} {F : List Addr} (e : ER K r σ G M H) (hr : r[i]? = some (some x)) (hv : σ[i]? = some (some v)) (rp : Rp K M H my w y F) (nd : F.Nodup) (hot : ∀ b ∈ F, M b ∧ ∀ j, b ∉ G j) (ha : apL x (y, my) = some x') :
    ∃ a us, v = .ref a ∧ H a = some (.lst us) ∧ us.length < sizeLine ∧ ∃ M' F', ER K (r.set i (some x')) σ (fun j => if j = i then F' else G j) M' (upd H a (.lst (us ++ [w]))) ∧ (∀ b ∈ F', b ∈ G i ∨ b ∈ F) ∧ (∀ b, M' b → M b) ∧ (∀ b, M b → b ∉ F → M' b) ∧ a ∈ G i := by
  obtain ⟨x, m⟩ := x
  obtain ⟨v', hv', rpx⟩ := e.at_ i x m hr
  rw [hv] at hv'; cases hv'
  have hx : ∃ xs, x = .l xs := by
    cases x with
    | l xs => exact ⟨xs, rfl⟩
    | _ => simp [apL] at ha
  obtain ⟨xs, rfl⟩ := hx
  cases m with
  | c => simp [apL] at ha
  | t =>
    simp only [apL] at ha
    split at ha
    · rename_i hl
      cases ha
      obtain ⟨a, us, zs, rfl, hz, hg, h3, c⟩ := rpx
      cases hz
      have aG : a ∈ G i := by rw [hg]; simp
      have aM := e.sub i a aG
      refine ⟨a, us, rfl, h3, by rw [c.len]; exact lim_lt hl, fun b => M b ∧ b ∉ F, [a], e.wr hv (fun b o h hb => by rw [upd_ne fun q => hb (by rw [q]; exact aG)]; exact h) (fun b z => .inl z.1) (fun j b _ hb => ⟨e.sub j b hb, fun z => (hot b z).2 j hb⟩) (fun b z => hot_up e.hot b z.1) ⟨a, us ++ [w], xs ++ [y], rfl, rfl, rfl, upd_same, ?_⟩ (by simp) (fun b hb => ?_), fun b hb => .inl (by rw [hg]; exact hb), fun b z => z.1, fun b h1 h2 => ⟨h1, h2⟩, aG⟩
      · have c2 : CoL K (fun b => M b ∧ b ∉ F) H us xs := c.less (fun b z => z.1) e.hot
        have c3 : Co K (fun b => M b ∧ b ∉ F) H w y := rp.cold e.hot (fun b hb z => z.2 hb) fun b z => z.1
        exact (c2.snoc c3).fm (fm_up (fun b z => e.hot b z.1) ⟨aM, fun z => (hot a z).2 i aG⟩ h3)
      · rw [List.mem_singleton.mp hb]
        exact ⟨⟨aM, fun z => (hot a z).2 i aG⟩, fun j hj z => e.dj j i hj a z aG⟩
    · cases ha
  | a =>
    simp only [apL] at ha
    split at ha
    · rename_i hl
      cases ha
      have rpx : Ho K H v (.l xs) (G i) := rpx
      have hy := rp.toA hl.2
      generalize hG : G i = Gi at rpx
      cases rpx with
      | @l a us _ F1 h3 c =>
        have aG : a ∈ G i := by rw [hG]; exact List.mem_cons_self
        have nG := e.nd i
        rw [hG] at nG
        obtain ⟨n1, n2⟩ := List.nodup_cons.mp nG
        have aF : a ∉ F := fun z => (hot a z).2 i aG
        have FG : ∀ b ∈ F, b ∉ F1 := fun b hb z => (hot b hb).2 i (by rw [hG]; exact List.mem_cons_of_mem _ z)
        have ln : ∀ {us : List V} {xs : List Dt} {F : List Addr}, HoL K H us xs F → us.length = xs.length := by
          intro us xs F h
          exact (h.cold (M := fun _ => False) fun _ _ z => z).len
        refine ⟨a, us, rfl, h3, by rw [ln c]; exact lim_lt hl.1, M, a :: (F1 ++ F), e.wr hv (fun b o h hb => by rw [upd_ne fun q => hb (by rw [q]; exact aG)]; exact h) (fun b z => .inl z) (fun j b _ hb => e.sub j b hb) (hot_up e.hot) (Ho.l upd_same ((c.snoc hy).up h3 (by simp [n1, aF]))) ?_ (fun b hb => ?_), fun b hb => ?_, fun b z => z, fun b h _ => h, by simp⟩
        · refine List.nodup_cons.mpr ⟨by simp [n1, aF], List.nodup_append.mpr ⟨n2, nd, fun b hb c hc q => FG c hc (q ▸ hb)⟩⟩
        · rcases List.mem_cons.mp hb with q | hb
          · rw [q]; exact ⟨e.sub i a aG, fun j hj z => e.dj j i hj a z aG⟩
          · rcases List.mem_append.mp hb with hb | hb
            · have bG : b ∈ G i := by rw [hG]; exact List.mem_cons_of_mem _ hb
              exact ⟨e.sub i b bG, fun j hj z => e.dj j i hj b z bG⟩
            · exact ⟨(hot b hb).1, fun j _ => (hot b hb).2 j⟩
        · rcases List.mem_cons.mp hb with q | hb
          · rw [q]; exact .inl List.mem_cons_self
          · rcases List.mem_append.mp hb with hb | hb
            · exact .inl (List.mem_cons_of_mem _ hb)
            · exact .inr hb
    · cases ha
/-- the state behind it, as from the statement's beginning -/
theorem ap_evo {x : Dt} {m : Md} {w : V} {F F' : List Addr} {i : Nat} {a : Addr} {us : List V} {M2 : Addr → Prop} (e : ER K r σ G M H) (p : PX K r' σ H M G w x m H' M' G' F) (hF : ∀ b ∈ F', b ∈ G' i ∨ b ∈ F) (h1 : ∀ b, M2 b → M' b) (h2 : ∀ b, M' b → b ∉ F → M2 b) (ha : a ∈ G' i) :
    Evo H M G (upd H' a (.lst us)) M2 (fun j => if j = i then F' else G' j) [] := by
  have na : ∀ b o, H b = some o → (∀ j, b ∉ G j) → b ≠ a := fun b o h hb q => by
    rcases p.ev.env i a ha with ⟨j, z⟩ | z
    · exact hb j (by rw [q]; exact z)
    · rw [q, z] at h; cases h
  refine ⟨fun b o h hb => by rw [upd_ne (na b o h hb)]; exact p.ev.pres b o h hb, fun b h => ?_, fun b z => p.ev.grow b (h1 b z), fun b h hb => h2 b (p.ev.keep b h hb) fun z => ?_, fun j b hb => ?_, fun _ z => nomatch z⟩
  · by_cases q : b = a
    · rw [q, upd_same] at h; cases h
    · rw [upd_ne q] at h; exact p.ev.dom b h
  · rcases p.ev.res b z with ⟨j, q⟩ | q
    · exact hb j q
    · obtain ⟨zs, q2⟩ := e.hot b h
      rw [q2] at q; cases q
  · by_cases q : j = i
    · simp only [if_pos q] at hb
      exact (hF b hb).elim (p.ev.env i b) (p.ev.res b)
    · simp only [if_neg q] at hb
      exact p.ev.env j b hb
theorem ty_list {a : Addr} {us : List V} (h : H a = some (.lst us)) : tyV K "list" (.ref a) H := .inl ⟨rfl, us, .inl (.inl h)⟩
/-- who holds a list knows it -/
theorem ER.isL {i : Nat} {x : Vl} (e : ER K r σ G M H) (hr : r[i]? = some (some x)) (hx : ∃ xs, x.1 = .l xs) : ∃ a us, σ[i]? = some (some (.ref a)) ∧ H a = some (.lst us) := by
  obtain ⟨x, m⟩ := x
  obtain ⟨xs, hx⟩ := hx
  simp only at hx
  subst hx
  obtain ⟨v, hv, rp⟩ := e.at_ i _ m hr
  cases m with
  | c =>
    obtain ⟨a, us, rfl, h, _⟩ := rp.1.lst
    exact ⟨a, us, hv, h⟩
  | t =>
    obtain ⟨a, us, zs, rfl, _, _, h, _⟩ := rp
    exact ⟨a, us, hv, h⟩
  | a =>
    have rp : Ho K H v (.l xs) (G i) := rp
    generalize G i = Gi at rp
    cases rp with
    | l h _ => exact ⟨_, _, hv, h⟩
def isL (i : Nat) (r : Ev) : Bool := match r[i]? with
  | some (some (.l _, _)) => true
  | _ => false
theorem ER.isL' {i : Nat} (e : ER K r σ G M H) (h : Y.isL i r = true) : ∃ a us, σ[i]? = some (some (.ref a)) ∧ H a = some (.lst us) := by
  unfold Y.isL at h
  split at h
  · rename_i xs m hr
    exact e.isL hr ⟨xs, rfl⟩
  · cases h
def sAppG (i : Nat) (f : Ev → Ou Vl) : Ev → So := fun r => if isL i r then sApp i f r else .no
end
section
variable {X : Cx} {cl : Str → Addr} {W : WX} {io : Bool}
theorem js_app {o a : Expr} {f : Ev → Ou Vl} {ap cp pos : Pos} (i : Nat) (ho : PE X o (tVar i)) (ha : JE X cl W a f) (hbase : attributeBase o "append" X.env (eval o X.env) = eval o X.env := by rfl)
    (hfew : ((backTo cp (starEach [a] X.env)).all (fun x => !x.1) && (backToKw cp (keywordEach [] X.env)).all (fun x => x.1.isSome) && decide (([a] : List Expr).length + ([] : List Keyword).length + (if ([] : List Keyword).isEmpty then 0 else 1) < 30)) = true := by rfl)
    (hline : (ap.endLine == cp.line) = true := by rfl) (hs : starEach [a] X.env = (false, eval a X.env) :: starEach [] X.env := by rfl) (hplain : (backTo cp (starEach [] X.env)).any (·.1) = false := by rfl) (hsw : swapsWith (.Call (.Attribute o "append" ap) [a] [] cp) none pos.line X.env = pure false := by rfl) :
    JS X cl W io (.Expr (.Call (.Attribute o "append" ap) [a] [] cp) pos) (sAppG i f) := fun tk =>
  (ps_expr (pe_bm PySem.F.plainAttrs_list PySem.F.slot_list_append PySem.F.type_list_append mt_append ho (pa_cons (ha tk) pa_nil hs) hbase hfew hline hs hplain) hsw).yimp fun D σ H ⟨r, M, G, e, q⟩ => by
    simp only [sAppG] at q
    split at q
    · rename_i hL
      obtain ⟨a0, us0, hv0, hh0⟩ := e.isL' hL
      refine ⟨.ref a0, hv0, ty_list hh0, ?_⟩
      have q : tIS X.K cl W io (sApp i f) D σ H := ⟨r, M, G, e, q⟩
      refine tIS_with q fun r M G y m r' w H' M' G' F e p k => ?_
      cases hr : r'[i]? with
      | none => simp only [hr] at k; exact k.elim
      | some o =>
        cases o with
        | none => simp only [hr] at k; exact k.elim
        | some x =>
          simp only [hr] at k
          cases hx : apL x (y, m) with
          | none => simp only [hx] at k; exact k.elim
          | some x' =>
            simp only [hx] at k
            obtain ⟨a, us, h1, h2, h3, M2, F', e2, hF, m1, m2, aG⟩ := ap_go p.er hr hv0 p.rp p.nd p.hot hx
            cases h1
            refine ⟨a0, us, w, rfl, rfl, h2, h3, ?_⟩
            exact k σ _ M2 _ ⟨e2, ap_evo e p hF m1 m2 aG, fun _ => rfl⟩
    · exact q.elim
end

section
variable {K : PySem.W.Frag} {cl : Str → Addr} {W : WX} {io : Bool} {M M' M0 : Addr → Prop} {H H' H0 : Hp} {G G' G0 : Nat → List Addr} {r r' : Ev} {σ σ0 : L2.St} {D : Ends}
theorem CoL.set {vs : List V} {xs : List Dt} {w : V} {y : Dt} : ∀ {j : Nat}, CoL K M H vs xs → Co K M H w y → CoL K M H (vs.set j w) (xs.set j y)
  | _, .nil, _ => .nil
  | 0, .cons _ q, c => .cons c q
  | j + 1, .cons h q, c => .cons h (CoL.set q c)
theorem HoL.len {vs : List V} {xs : List Dt} {F : List Addr} (h : HoL K H vs xs F) : vs.length = xs.length := (h.cold (M := fun _ => False) fun _ _ z => z).len
theorem HoL.set {w : V} {y : Dt} {Fy : List Addr} (hy : Ho K H w y Fy) (ny : Fy.Nodup) : ∀ {j : Nat} {vs : List V} {xs : List Dt} {F : List Addr}, j < xs.length → HoL K H vs xs F → F.Nodup → (∀ b ∈ Fy, b ∉ F) → ∃ F', HoL K H (vs.set j w) (xs.set j y) F' ∧ (∀ b ∈ F', b ∈ F ∨ b ∈ Fy) ∧ F'.Nodup
  | _, _, _, _, hj, .nil, _, _ => by simp at hj
  | 0, _, _, _, hj, .cons (F := F1) (F' := F2) h q, nd, dj => by
    obtain ⟨n1, n2, n3⟩ := List.nodup_append.mp nd
    exact ⟨Fy ++ F2, .cons hy q, fun b hb => (List.mem_append.mp hb).elim .inr fun z => .inl (List.mem_append_right _ z), List.nodup_append.mpr ⟨ny, n2, fun a ha b hb z => dj a ha (by rw [z]; exact List.mem_append_right _ hb)⟩⟩
  | j + 1, _, _, _, hj, .cons (F := F1) (F' := F2) h q, nd, dj => by
    obtain ⟨n1, n2, n3⟩ := List.nodup_append.mp nd
    obtain ⟨F', h1, h2, h3⟩ := HoL.set hy ny (j := j) (by simpa using hj) q n2 fun b hb z => dj b hb (List.mem_append_right _ z)
    refine ⟨F1 ++ F', .cons h h1, fun b hb => ?_, List.nodup_append.mpr ⟨n1, h3, fun a ha b hb z => ?_⟩⟩
    · rcases List.mem_append.mp hb with hb | hb
      · exact .inl (List.mem_append_left _ hb)
      · exact (h2 b hb).imp (List.mem_append_right _) id
    · rcases h2 b hb with hb | hb
      · exact n3 a ha b hb z
      · exact dj b hb (List.mem_append_left _ (z ▸ ha))
/-- an item stored -/
def stL : Vl → Int → Vl → Option Vl
  | (.l xs, .t), k, y => (ixN xs.length k).map fun j => (.l (xs.set j y.1), .t)
  | (.l xs, .a), k, y => if zfl y = true then (ixN xs.length k).map fun j => (.l (xs.set j y.1), .a) else none
  | _, _, _ => none
def tgI (i : Nat) (f : Ev → Ou Vl) : Vl → Ev → Option Ev := fun y r => if isL i r then
    match f r with
    | .ok (.i k, _) r1 => match r1[i]? with
      | some (some x) => (stL x k y).map fun x' => r1.set i (some x')
      | _ => none
    | _ => none
  else none
theorem ixN_lt {n : Nat} {k : Int} {j : Nat} (h : ixN n k = some j) : j < n := by
  unfold ixN at h
  repeat' split at h
  all_goals first | (cases h; omega) | (simp at h; omega) | cases h
theorem st_go {i : Nat} {x x' : Vl} {k : Int} {y : Dt} {my : Md} {w v : V} {F : List Addr} (e : ER K r σ G M H) (hr : r[i]? = some (some x)) (hv : σ[i]? = some (some v)) (rp : Rp K M H my w y F) (nd : F.Nodup) (hot : ∀ b ∈ F, M b ∧ ∀ j, b ∉ G j) (ha : stL x k (y, my) = some x') :
    ∃ a us j, v = .ref a ∧ H a = some (.lst us) ∧ ixN us.length k = some j ∧ ∃ M' F', ER K (r.set i (some x')) σ (fun j => if j = i then F' else G j) M' (upd H a (.lst (us.set j w))) ∧ (∀ b ∈ F', b ∈ G i ∨ b ∈ F) ∧ (∀ b, M' b → M b) ∧ (∀ b, M b → b ∉ F → M' b) ∧ a ∈ G i := by
  obtain ⟨x, m⟩ := x
  obtain ⟨v', hv', rpx⟩ := e.at_ i x m hr
  rw [hv] at hv'; cases hv'
  have hx : ∃ xs, x = .l xs := by
    cases x with
    | l xs => exact ⟨xs, rfl⟩
    | _ => simp [stL] at ha
  obtain ⟨xs, rfl⟩ := hx
  cases m with
  | c => simp [stL] at ha
  | t =>
    simp only [stL, Option.map_eq_some_iff] at ha
    obtain ⟨j, hj, rfl⟩ := ha
    obtain ⟨a, us, zs, rfl, hz, hg, h3, c⟩ := rpx
    cases hz
    have aG : a ∈ G i := by rw [hg]; simp
    have aM := e.sub i a aG
    refine ⟨a, us, j, rfl, h3, by rw [c.len]; exact hj, fun b => M b ∧ b ∉ F, [a], e.wr hv (fun b o h hb => by rw [upd_ne fun q => hb (by rw [q]; exact aG)]; exact h) (fun b z => .inl z.1) (fun j b _ hb => ⟨e.sub j b hb, fun z => (hot b z).2 j hb⟩) (fun b z => hot_up e.hot b z.1) ⟨a, us.set j w, xs.set j y, rfl, rfl, rfl, upd_same, ?_⟩ (by simp) (fun b hb => ?_), fun b hb => .inl (by rw [hg]; exact hb), fun b z => z.1, fun b h1 h2 => ⟨h1, h2⟩, aG⟩
    · have c2 : CoL K (fun b => M b ∧ b ∉ F) H us xs := c.less (fun b z => z.1) e.hot
      have c3 : Co K (fun b => M b ∧ b ∉ F) H w y := rp.cold e.hot (fun b hb z => z.2 hb) fun b z => z.1
      exact (c2.set c3).fm (fm_up (fun b z => e.hot b z.1) ⟨aM, fun z => (hot a z).2 i aG⟩ h3)
    · rw [List.mem_singleton.mp hb]
      exact ⟨⟨aM, fun z => (hot a z).2 i aG⟩, fun j hj z => e.dj j i hj a z aG⟩
  | a =>
    simp only [stL] at ha
    split at ha
    · rename_i hl
      simp only [Option.map_eq_some_iff] at ha
      obtain ⟨j, hj, rfl⟩ := ha
      have rpx : Ho K H v (.l xs) (G i) := rpx
      have hy := rp.toA hl
      generalize hG : G i = Gi at rpx
      cases rpx with
      | @l a us _ F1 h3 c =>
        have aG : a ∈ G i := by rw [hG]; exact List.mem_cons_self
        have nG := e.nd i
        rw [hG] at nG
        obtain ⟨n1, n2⟩ := List.nodup_cons.mp nG
        have aF : a ∉ F := fun z => (hot a z).2 i aG
        have FG : ∀ b ∈ F, b ∉ F1 := fun b hb z => (hot b hb).2 i (by rw [hG]; exact List.mem_cons_of_mem _ z)
        obtain ⟨F', c2, s2, nd2⟩ := HoL.set hy nd (ixN_lt hj) c n2 FG
        have aF' : a ∉ F' := fun z => (s2 a z).elim n1 aF
        refine ⟨a, us, j, rfl, h3, by rw [c.len]; exact hj, M, a :: F', e.wr hv (fun b o h hb => by rw [upd_ne fun q => hb (by rw [q]; exact aG)]; exact h) (fun b z => .inl z) (fun j b _ hb => e.sub j b hb) (hot_up e.hot) (Ho.l upd_same (c2.up h3 aF')) (List.nodup_cons.mpr ⟨aF', nd2⟩) (fun b hb => ?_), fun b hb => ?_, fun b z => z, fun b h _ => h, by simp⟩
        · rcases List.mem_cons.mp hb with q | hb
          · rw [q]; exact ⟨e.sub i a aG, fun j hj z => e.dj j i hj a z aG⟩
          · rcases s2 b hb with hb | hb
            · have bG : b ∈ G i := by rw [hG]; exact List.mem_cons_of_mem _ hb
              exact ⟨e.sub i b bG, fun j hj z => e.dj j i hj b z bG⟩
            · exact ⟨(hot b hb).1, fun j _ => (hot b hb).2 j⟩
        · rcases List.mem_cons.mp hb with q | hb
          · rw [q]; exact .inl List.mem_cons_self
          · exact (s2 b hb).imp (List.mem_cons_of_mem _) id
    · cases ha
theorem tg_ix {i : Nat} {f : Ev → Ou Vl} : TgOk K io (gSub (tVar i) (tI K cl W f) rSetL) (tgI i f) := fun r σ G M H v x m F r' Q e rp nd hot ht k => by
  unfold tgI at ht
  split at ht
  · rename_i hL
    obtain ⟨a0, us0, hv0, hh0⟩ := e.isL' hL
    refine ⟨.ref a0, hv0, r, M, G, e, ?_⟩
    cases hf : f r with
    | no => rw [hf] at ht; cases ht
    | ex c fs r1 => rw [hf] at ht; cases ht
    | ok km r1 =>
      obtain ⟨kd, mk⟩ := km
      rw [hf] at ht
      cases kd with
      | i k0 =>
        simp only at ht
        intro u H1 M1 G1 F1 p
        have hu : u = .int k0 := by
          obtain ⟨M2, _, _, c⟩ := p.giveUp e.hot
          exact c.int
        subst hu
        cases hr : r1[i]? with
        | none => rw [hr] at ht; cases ht
        | some o =>
          cases o with
          | none => rw [hr] at ht; cases ht
          | some xv =>
            rw [hr] at ht
            simp only [Option.map_eq_some_iff] at ht
            obtain ⟨x', hx', rfl⟩ := ht
            obtain ⟨rp1, hot1, _⟩ := rp.evo hot e p.ev
            obtain ⟨a, us, j, h1, h2, h3, M2, F', e2, hF, m1, m2, aG⟩ := st_go p.er hr hv0 rp1 nd hot1 hx'
            cases h1
            have na : ∀ b o, H b = some o → (∀ j, b ∉ G j) → b ≠ a0 := fun b o h hb q => by
              rcases p.ev.env i a0 aG with ⟨j, z⟩ | z
              · exact hb j (by rw [q]; exact z)
              · rw [q, z] at h; cases h
            refine ⟨a0, us, k0, j, rfl, rfl, h2, h3, k σ _ M2 _ e2 (fun b o h hb _ => by rw [upd_ne (na b o h hb)]; exact p.ev.pres b o h hb) (fun b h => ?_) (fun b z => p.ev.grow b (m1 b z)) (fun b h hb hf => m2 b (p.ev.keep b h hb) hf) (fun l b hb => ?_) fun _ => rfl⟩
            · by_cases q : b = a0
              · rw [q, upd_same] at h; cases h
              · rw [upd_ne q] at h; exact p.ev.dom b h
            · by_cases q : l = i
              · simp only [if_pos q] at hb
                rcases hF b hb with z | z
                · exact (p.ev.env i b z).imp id .inr
                · exact .inr (.inl z)
              · simp only [if_neg q] at hb
                exact (p.ev.env l b hb).imp id .inr
      | _ => cases ht
  · cases ht
end
section
variable {X : Cx} {cl : Str → Addr} {W : WX} {io : Bool}
theorem js_setI {o ix e : Expr} {f fi : Ev → Ou Vl} {sp pos : Pos} (i : Nat) (ho : PE X o (tVar i)) (hi : JE X cl W ix fi) (he : JE X cl W e f)
    (ha : ∀ v, assign (.Subscript o ix sp) X.env v = (do
      let ov ← holding [v] (eval o X.env)
      let iv ← holding [v, ov] (eval ix X.env)
      standAt sp
      holding [v, ov, iv] (setItem ov iv v)
      release [v, ov, iv] []) := by intro _; rfl)
    (hs : swapsWithSole [.Subscript o ix sp] e pos.line X.env = pure false := by rfl) (hw : swappedStores [.Subscript o ix sp] e X.env = pure none := by rfl)
    (h1 : (assignEach [.Subscript o ix sp] X.env).map (·.2) = [assign (.Subscript o ix sp) X.env] := by rfl) : JS X cl W io (.Assign [.Subscript o ix sp] e pos) (sAsg f (tgI i fi)) := fun tk =>
  (ps_asg (he tk) (pg_sub ho (hi tk) set_list ha) hs hw h1).yimp fun _ _ _ q => asg_go tg_ix q
end
end Y
/-! Y, part O: enumerate over a tuple. -/
namespace Y
open PySem L2 PyProof.Rows
/-- enumerate(v), v's iterator told by how it begins -/
theorem enumB_new {v : Value} {o : Obj} {S : Heap → Prop} (B : Begins v o S) : Meets (Builtin.«enumerate.__new__» ⟨[.type "enumerate", v], []⟩) (fun _ R s => S s.heap ∧ R (.ok (.ret (.ref (s.heap.push o).objs.size)))
    { s with heap := (s.heap.push o).push { cls := .type "enumerate", data := .fields #[.none, .bool false, .ref s.heap.objs.size, rawInt 0, .none, .none] } }) :=
  .of_wp fun prog w A R s h => by
    obtain ⟨hp, g, d, tk, os⟩ := s; obtain ⟨h1, h⟩ := h
    have hsub := sub_enumerate
    have q1 : ∀ {A' : Around} {E Q : Value → Shared → Prop}, Q (.ref hp.objs.size) ⟨hp.push o, g, d, tk, os⟩ → wpAny (model prog w) A' (pyIter v) Q E ⟨hp, g, d, tk, os⟩ := fun q => B.iter prog w _ _ ⟨hp, g, d, tk, os⟩ _ h1 q
    wp_walk using q1
    refine wpAny_stack_any fun st => wpAny_pure ?_
    split
    · rename_i c _ _ _ _ _
      cases (c == Value.type "enumerate") <;> (wp_walk using q1; exact ⟨_, rfl, h⟩)
    · wp_walk using q1
      exact ⟨_, rfl, h⟩
theorem call_enumB {prog : Program} {w : World} {A : Around} {E : Value → Shared → Prop} {s : Shared} {v : Value} {o : Obj} {S : Heap → Prop} {Q : Value → Shared → Prop} (B : Begins v o S) (h1 : S s.heap)
    (h : ∀ h', IsEnum h' (s.heap.objs.size + 1) s.heap.objs.size 0 .none → h'.get? s.heap.objs.size = some o → (∀ b u, s.heap.get? b = some u → h'.get? b = some u) → Q (.ref (s.heap.objs.size + 1)) { s with heap := h' }) :
    wpAny (model prog w) A (PySem.call (.type "enumerate") [v]) Q E s := by
  refine callType_new F.called_enumerate (by decide) (F.typeCall_enumerate_1 _) (F.newCall_enumerate_1 _) (fun obj => F.args_object_init_2 obj _) F.entry_enumerate_new (enumB_new B) ⟨h1, ?_⟩
  have hz : (s.heap.push o).objs.size = s.heap.objs.size + 1 := Heap.size_push ..
  show _ ∧ _
  rw [hz]
  have he : IsEnum ((s.heap.push o).push { cls := .type "enumerate", data := .fields #[.none, .bool false, .ref s.heap.objs.size, rawInt 0, .none, .none] }) (s.heap.objs.size + 1) s.heap.objs.size 0 .none := by
    have z := Heap.get?_push_size (s.heap.push o) (o := { cls := .type "enumerate", data := .fields #[.none, .bool false, .ref s.heap.objs.size, rawInt 0, .none, .none] }) rfl
    rwa [hz] at z
  exact ⟨⟨_, he, rfl⟩, h _ he (Heap.get?_push_of_some _ (Heap.get?_push_size _ B.free)) fun b u x => Heap.get?_push_of_some _ (Heap.get?_push_of_some _ x)⟩
/-- a tuple's items with their numbers -/
def IteT (K : PySem.W.Frag) (a : Addr) : It :=
  ⟨fun i H => ∃ (xs : List V) (x : V), SqT K H a xs ∧ xs[i]? = some x, fun i H v H' => ∃ T x, v = .ref T ∧ H T = none ∧ H' = upd H T (.tup [.int (i : Nat), x]) ∧ ∀ xs, SqT K H a xs → xs[i]? = some x, fun i H => ∃ xs : List V, SqT K H a xs ∧ xs.length ≤ i⟩
theorem turn_enumT {P : Program} {w : World} {K : PySem.W.Frag} {elts : List Expr} {kk : Nat} {tpos : Pos} (a e it : Addr) : Turn P w K (.Tuple elts kk tpos) (IteT K a) [e, it] e (fun i h => (∃ old, IsEnum h e it ((i : Nat) : Int) old) ∧ h.IsTupleIter it a i ∧ e ≠ it ∧ e ≠ a ∧ a ≠ it) where
  mem := by simp
  obj := fun i h ⟨⟨old, he⟩, ⟨o, ho, hc, hd⟩, _⟩ b hb => by
    have e' : b = e ∨ b = it := by simpa using hb
    rcases e' with rfl | rfl
    · exact ⟨_, he, fun v q => nomatch q⟩
    · exact ⟨o, ho, fun v q => by rw [hd] at q; cases q⟩
  keep := fun i h h' ⟨⟨old, he⟩, hi, hne⟩ k => ⟨⟨old, k e (by simp) _ he⟩, hi.at fun o q => k it (by simp) o q, hne⟩
  item := by
    intro X hP hw hK hc i pins s σ H E I hf st hg
    subst hP hw hK
    obtain ⟨⟨old, he⟩, hit, hne, hea, hai⟩ := st
    obtain ⟨xs, x, hq, hx⟩ := hg
    obtain ⟨its, rv, p, hz⟩ := I.tuple hq
    obtain ⟨u, hu, ru⟩ := rv.get hx
    have hel : e < s.heap.objs.size := Heap.lt_size he
    have hil : it < s.heap.objs.size := by obtain ⟨_, q, _⟩ := hit; exact Heap.lt_size q
    have D := Draws.tuple (prog := X.prog) (w := X.w) (A := X.A.in1) (I.ok.hd hc) it a hai its.toArray
    have hi : i < its.toArray.size := by
      have := (List.getElem?_eq_some_iff.mp hu).1
      simpa using this
    refine wpAny_pyNext_enum_itemD D he ⟨hit, p⟩ hi hne (by simp [hne, hea]) fun z h' tk hP ho hs hT hsz hk => ?_
    have hzu : z = u := by
      have hP : its.toArray[i]? = some z := hP
      have : its[i]? = some z := by simpa using hP
      rw [hu] at this
      exact (Option.some.inj this).symm
    subst hzu
    refine ⟨_, rfl, wpAny_letOwnedTupleGo_enum (s := { s with heap := h', toks := tk + 1 }) ho fun h'' he' sb => ?_⟩
    have hT2 : h''.get? s.heap.objs.size = some { cls := .type "tuple", data := .seq #[.int i tk, z] } := (sb.2 _ (Nat.ne_of_gt hel)).trans hT
    have new : ObjOk X.prog X.w (upd H s.heap.objs.size (.tup [.int (i : Nat), x])) h'' s.heap.objs.size (.tup [.int (i : Nat), x]) := ⟨by show 2 ≤ sizeLine; decide, [.int i tk, z], .cons ⟨_, rfl⟩ (.cons ru .nil), ⟨_, hT2, rfl, _, rfl⟩⟩
    have I1 : Inv X pins σ (upd H s.heap.objs.size (.tup [.int (i : Nat), x])) { s with heap := h'', toks := tk + 1 } :=
      I.turnedNew (ch := [e, it]) (fun b ob hb q => (sb.2 b fun y => hb (by simp [y])).trans (hk b ob (fun y => hb (by simp [y])) (fun y => hb (by simp [y])) q)) hf (Nat.le_refl _) new
    refine ⟨.ref s.heap.objs.size, _, I1, rfl, ⟨_, x, rfl, I.hok.fresh (Nat.le_refl _), rfl, fun ys hy => by rw [I.tuple_inj hy hq]; exact hx⟩, ⟨⟨z, ?_⟩, hs.1.at fun o q => (sb.2 it (Ne.symm hne)).trans q, hne, hea, hai⟩, fun b hb => ?_⟩
    · rw [show ((i + 1 : Nat) : Int) = (i : Int) + 1 by omega]; exact he'
    · have e' : b = e ∨ b = it := by simpa using hb
      have hb' : b < s.heap.objs.size := by rcases e' with rfl | rfl <;> assumption
      rw [upd_ne (Nat.ne_of_lt hb')]
      exact (hf b hb).1
  done := by
    intro X hP hw hK hc i pins s σ H E I hf st hg
    subst hP hw hK
    obtain ⟨⟨old, he⟩, hit, hne, hea, hai⟩ := st
    obtain ⟨xs, hq, hx⟩ := hg
    obtain ⟨its, rv, p, hz⟩ := I.tuple hq
    obtain ⟨f0, f1, f2, f3, f4, f5⟩ := hf it (by simp)
    have hl := rv.length
    have D := Draws.tuple (prog := X.prog) (w := X.w) (A := X.A.in1) (I.ok.hd hc) it a hai its.toArray
    have step : wpAny (model X.prog X.w) X.A.in1 (Builtin.SmallTypes.nextOf (.ref it)) (fun _ _ => False) (fun x s' => ∃ h', x = x ∧ Heap.ExtBut it s.heap h' ∧ s' = { s with heap := h' } ∧ ∃ z o, x = .ref z ∧ h'.get? z = some o ∧ o.cls = .type "StopIteration") s :=
      wpAny_nextOf_tuple_end (I.ok.hd hc) hit p (by simp; omega) fun h' x eb hx' => let ⟨o, ho, hc'⟩ := hx'; ⟨h', rfl, eb, rfl, x, o, rfl, ho, hc'⟩
    unfold pyNext
    refine wpAny_bind (wpAny_attempt (wpAny_callSpecial?_slot (name := Str.ofString "__next__") (show s.TypeIs (.ref e) "enumerate" from ⟨_, he, rfl⟩) F.slot_enumerate_next (wpAny_call_entry F.slot_enumerate_next ⟨_, he, rfl⟩ F.entry_enumerate_next ?_ (F.args_enumerate_next_1 _))))
    show wpAny _ _ (field (.ref e) 2 >>= _) _ _ _
    refine wpAny_bind (wpAny_field he rfl (x := .ref it) rfl ?_)
    refine wpAny_bind (wpAny_mono step (fun _ _ z => z.elim) fun x s' ⟨h', _, eb, es, z, o, ex, ho, hc'⟩ => ?_)
    subst es; subst ex
    exact wpAny_bind (wpAny_isInstance (T := "StopIteration") (b := true) ⟨o, ho, hc'⟩ isSubtype_stop (wpAny_pure ⟨rfl, I.turned (t' := s.toks) (fun b o hb q => eb b o hb q) f0 f1 f3 f4 f5⟩))
  self := fun A i s Q E ⟨⟨_, he⟩, _⟩ h => wpAny_pyIter_enum he h
theorem enumT_go {X : Cx} {pins : List (Addr × Obj)} {σ : L2.St} {H1 : Hp} {s1 : Shared} {R : It → Hp → Prop} {tpos : Pos} {elts : List Expr} {kk : Nat} {us : List Value} {vs xs : List V} {a : Addr} (I1 : Inv X pins σ H1 s1) (r1 : Vals vs us) (ex : vs = [.ref a]) (hq : SqT X.K H1 a xs) (q : R (IteT X.K a) H1) :
    wpAny (model X.prog X.w) X.A (PySem.call (.type "enumerate") us) (fun v s' => wpAny (model X.prog X.w) X.A (pyIter v) (PIE X pins σ (.Tuple elts kk tpos) R) X.xe s') X.xe s1 := by
  subst ex
  rw [Vals.ref1 r1]
  obtain ⟨its, rv, p', hz⟩ := I1.tuple hq
  have hlt : a < s1.heap.objs.size := by obtain ⟨_, z, _⟩ := p'; exact Heap.lt_size z
  refine call_enumB (begins_tuple a its.toArray) p' fun h' he hit hk => wpAny_pyIter_enum he ?_
  have I2 : Inv X pins σ H1 { s1 with heap := h' } := I1.kept (t' := s1.toks) hk
  refine ⟨s1.heap.objs.size + 1, [s1.heap.objs.size + 1, s1.heap.objs.size], _, _, H1, rfl, I2, turn_enumT a (s1.heap.objs.size + 1) s1.heap.objs.size, ⟨⟨.none, he⟩, ⟨_, hit, rfl, rfl⟩, Nat.succ_ne_self _, (Nat.ne_of_lt (Nat.lt_succ_of_lt hlt)).symm, Nat.ne_of_lt hlt⟩, fun b hb => ?_, q⟩
  have e' : b = s1.heap.objs.size + 1 ∨ b = s1.heap.objs.size := by simpa using hb
  have hle : s1.heap.objs.size ≤ b := by
    rcases e' with rfl | rfl
    · exact Nat.le_succ _
    · exact Nat.le_refl _
  exact I1.fpOk hle (I1.hok.fresh hle)
theorem enumL_go {X : Cx} {pins : List (Addr × Obj)} {σ : L2.St} {H1 : Hp} {s1 : Shared} {R : It → Hp → Prop} {tpos : Pos} {elts : List Expr} {kk : Nat} {us : List Value} {vs xs : List V} {a : Addr} (I1 : Inv X pins σ H1 s1) (r1 : Vals vs us) (ex : vs = [.ref a]) (hq : SqL X.K H1 a xs) (q : R (Ite X.K a) H1) :
    wpAny (model X.prog X.w) X.A (PySem.call (.type "enumerate") us) (fun v s' => wpAny (model X.prog X.w) X.A (pyIter v) (PIE X pins σ (.Tuple elts kk tpos) R) X.xe s') X.xe s1 := by
  subst ex
  rw [Vals.ref1 r1]
  obtain ⟨its, rv, p', hz⟩ := I1.list hq
  refine call_enumerate_list p'.isList fun h' he hit hsz hk => wpAny_pyIter_enum he ?_
  have I2 : Inv X pins σ H1 { s1 with heap := h' } := I1.kept (t' := s1.toks) hk
  refine ⟨s1.heap.objs.size + 1, [s1.heap.objs.size + 1, s1.heap.objs.size], _, _, H1, rfl, I2, turn_enum a (s1.heap.objs.size + 1) s1.heap.objs.size, ⟨⟨.none, he⟩, hit, Nat.succ_ne_self _⟩, fun b hb => ?_, q⟩
  have e' : b = s1.heap.objs.size + 1 ∨ b = s1.heap.objs.size := by simpa using hb
  have hle : s1.heap.objs.size ≤ b := by
    rcases e' with rfl | rfl
    · exact Nat.le_succ _
    · exact Nat.le_refl _
  exact I1.fpOk hle (I1.hok.fresh hle)
def iEnumA (K : PySem.W.Frag) (ta : TA) : TI := fun σ H R => ta σ H fun vs H1 => ∃ a xs, vs = [.ref a] ∧ ((SqL K H1 a xs ∧ R (Ite K a) H1) ∨ (SqT K H1 a xs ∧ R (IteT K a) H1))
end Y
/-! Y, part S: what loops run over. -/
namespace Y
open PySem L2 PyProof.Rows
section
variable {K : PySem.W.Frag} {cl : Str → Addr} {W : WX} {io : Bool} {M M' M0 : Addr → Prop} {H H' H0 : Hp} {G G' G0 : Nat → List Addr} {r r' : Ev} {σ σ0 : L2.St}
def PrS (K : PySem.W.Frag) (rr : List V → Hp → (It → Hp → Prop) → Prop) (f : List Dt → Option (List Dt)) : Prop :=
  ∀ (M : Addr → Prop) (H : Hp) (vs : List V) (xs ds : List Dt) (R : It → Hp → Prop), Hotty M H → CoL K M H vs xs → f xs = some ds → (∀ J, SrcOk K J M H ds → R J H) → rr vs H R
def mS (f : List Dt → Option (List Dt)) (as : List Am) : Ev → Ou (List Dt) := fun r => match evA as r with
  | .ok ys r1 => match look r1 ys with
    | some xs => match f xs with
      | some ds => .ok ds (frz ys r1)
      | none => .no
    | none => .no
  | .ex c fs r1 => .ex c fs r1
  | .no => .no
theorem mS_ok {rr : List V → Hp → (It → Hp → Prop) → Prop} {f : List Dt → Option (List Dt)} (hp : PrS K rr f) {as : List Am} {R : It → Hp → Prop} (h : tII K cl W (mS f as) σ H R) : tOs K cl W as σ H fun vs H1 => rr vs H1 R := by
  obtain ⟨r, M, G, e, h⟩ := h
  refine tOs_ok as e ?_
  simp only [mS] at h
  cases ha : evA as r with
  | no => rw [ha] at h; exact h
  | ex c fs r1 => rw [ha] at h; exact h
  | ok ys r1 =>
    rw [ha] at h
    simp only at h
    intro vs H1 M1 G1 e1 v1 a1
    cases hl : look r1 ys with
    | none => rw [hl] at h; exact h.elim
    | some xs =>
      rw [hl] at h
      simp only at h
      cases hf : f xs with
      | none => rw [hf] at h; exact h.elim
      | some ds =>
        rw [hf] at h
        simp only at h
        have cc : CoL K (fun b => M1 b ∧ b ∉ owns G1 ys) H1 vs xs := look_cold e1 (fun b z => z.1) (fun b hb z => z.2 hb) a1 hl
        have ht1 : Hotty (fun b => M1 b ∧ b ∉ owns G1 ys) H1 := fun b z => e1.hot b z.1
        obtain ⟨G2, e2, s2⟩ := e1.frz ys
        have v2 : Evo H1 M1 G1 H1 (fun b => M1 b ∧ b ∉ owns G1 ys) G2 [] := ⟨fun _ _ h _ => h, fun _ h => h, fun b z => .inl z.1, fun b h hb => ⟨h, fun z => let ⟨i, q⟩ := mem_owns z; hb i q⟩, fun i b hb => .inl ⟨i, s2 i b hb⟩, fun _ h => nomatch h⟩
        exact hp _ H1 vs xs ds R ht1 cc hf fun J so => h J H1 _ _ e2 (v1.trans e.hot v2) so
/-! ### SrcOk of the kit's iterators -/
theorem Fm.hot' (f : Fm M H M' H') {a : Addr} {vs : List V} (h : Rd H a (.lst vs)) (hn : ¬ M a) : Rd H' a (.lst vs) := f.rd h hn
theorem src_walk {J : It} {xs : List Dt} {n : Nat} {P : Hp → Prop} {Yd : Nat → Hp → V → Hp → Prop} (w : Walk J n P Yd) (hn : n = xs.length) (hp : ∀ M1 H1, Fm M H M1 H1 → P H1)
    (hy : ∀ i x v M1 H1 H2, xs[i]? = some x → Fm M H M1 H1 → Hotty M1 H1 → Yd i H1 v H2 → (∀ b o, H1 b = some o → H2 b = some o) ∧ Co K M1 H2 v x) : SrcOk K J M H xs := by
  subst hn
  exact ⟨fun i M1 H1 hi f => w.goes i H1 hi (hp M1 H1 f), fun M1 H1 f => w.stops H1 (hp M1 H1 f), fun i x v M1 H1 H2 hx f ht y => hy i x v M1 H1 H2 hx f ht (w.yields i H1 v H2 (List.getElem?_eq_some_iff.mp hx).1 (hp M1 H1 f) y)⟩
/-- the items of a sequence, cold -/
structure ItemsOk (K : PySem.W.Frag) (M : Addr → Prop) (H : Hp) (us : List V) (xs : List Dt) : Prop where
  co : CoL K M H us xs
theorem CoL.at' {us : List V} {xs : List Dt} (c : CoL K M H us xs) {i : Nat} {x : Dt} {v : V} (hx : xs[i]? = some x) (hv : us[i]? = some v) : Co K M H v x := by
  obtain ⟨w, h1, h2⟩ := c.get hx
  rw [hv] at h1; cases h1; exact h2
theorem src_list {a : Addr} {us : List V} {xs : List Dt} (h : ∀ M1 H1, Fm M H M1 H1 → SqL K H1 a us) (c : CoL K M H us xs) : SrcOk K (Itl K a) M H xs :=
  src_walk (walk_list (K := K) (a := a) (xs := us)) c.len h fun i x v M1 H1 H2 hx f ht ⟨e, hv⟩ => by
    subst e
    exact ⟨fun _ _ h => h, (c.fm f).at' hx hv⟩
theorem src_tup {a : Addr} {us : List V} {xs : List Dt} (h : SqT K H a us) (c : CoL K M H us xs) : SrcOk K (Itt K a) M H xs :=
  src_walk (walk_tup (K := K) (a := a) (xs := us)) c.len (fun M1 H1 f => f.sqT h) fun i x v M1 H1 H2 hx f ht ⟨e, hv⟩ => by
    subst e
    exact ⟨fun _ _ h => h, (c.fm f).at' hx hv⟩
def rngD (lo : Int) (n : Nat) : List Dt := (List.range n).map fun (i : Nat) => .i (lo + (i : Int))
theorem src_range {lo : Int} {n : Nat} (ht : Hotty M H) : SrcOk K (Itr lo n) M H (rngD lo n) :=
  src_walk (walk_range (lo := lo) (n := n)) (by simp [rngD]) (fun M1 H1 f => trivial) fun i x v M1 H1 H2 hx f ht ⟨e, hv⟩ => by
    subst e hv
    simp only [rngD, List.getElem?_map, Option.map_eq_some_iff] at hx
    obtain ⟨j, hj, rfl⟩ := hx
    obtain ⟨_, hj⟩ := List.getElem?_eq_some_iff.mp hj
    simp at hj
    subst hj
    exact ⟨fun _ _ h => h, .i _⟩
def rngC (lo c : Int) (n : Nat) : List Dt := (List.range n).map fun (i : Nat) => .i (lo + (i : Int) * c)
theorem src_rangeC {lo c : Int} {n : Nat} (ht : Hotty M H) : SrcOk K (Itc lo c n) M H (rngC lo c n) :=
  src_walk (walk_rangeC (lo := lo) (c := c) (n := n)) (by simp [rngC]) (fun M1 H1 f => trivial) fun i x v M1 H1 H2 hx f ht ⟨e, hv⟩ => by
    subst e hv
    simp only [rngC, List.getElem?_map, Option.map_eq_some_iff] at hx
    obtain ⟨j, hj, rfl⟩ := hx
    obtain ⟨_, hj⟩ := List.getElem?_eq_some_iff.mp hj
    simp at hj
    subst hj
    exact ⟨fun _ _ h => h, .i _⟩
/-- a new pair -/
theorem co_pair {T : Addr} {x y : V} {dx dy : Dt} (ht : Hotty M H) (hT : H T = none) (cx : Co K M H x dx) (cy : Co K M H y dy) : (∀ b o, H b = some o → upd H T (.tup [x, y]) b = some o) ∧ Co K M (upd H T (.tup [x, y])) (.ref T) (.t [dx, dy]) := by
  have f : Fm M H M (upd H T (.tup [x, y])) := ⟨fun b o e _ => same_new hT b o e, fun b z => .inl z, ht⟩
  exact ⟨same_new hT, .t (.inl (.inl upd_same)) (.cons (cx.fm f) (.cons (cy.fm f) .nil))⟩
def enumD : Int → List Dt → List Dt
  | _, [] => []
  | k, x :: xs => .t [.i k, x] :: enumD (k + 1) xs
theorem enumD_len : ∀ (xs : List Dt) (k : Int), (enumD k xs).length = xs.length
  | [], _ => rfl
  | _ :: xs, k => by simp [enumD, enumD_len xs]
theorem enumD_at : ∀ (xs : List Dt) (k : Int) (i : Nat), (enumD k xs)[i]? = xs[i]?.map fun x => .t [.i (k + i), x]
  | [], _, _ => by simp [enumD]
  | x :: xs, k, 0 => by simp [enumD]
  | x :: xs, k, i + 1 => by
    simp only [enumD, List.getElem?_cons_succ]
    rw [enumD_at xs (k + 1) i]
    congr 1
    funext y
    rw [show k + 1 + (i : Int) = k + ((i + 1 : Nat) : Int) by omega]
theorem src_enum {a : Addr} {us : List V} {xs : List Dt} (h : ∀ M1 H1, Fm M H M1 H1 → SqL K H1 a us) (c : CoL K M H us xs) : SrcOk K (Ite K a) M H (enumD 0 xs) :=
  src_walk (walk_enum (K := K) (a := a) (xs := us)) (by rw [c.len, enumD_len]) h fun i x v M1 H1 H2 hx f ht ⟨T, x1, y1, e1, hT, e2, e3, e4⟩ => by
    subst e1 e2
    simp only [Option.some.injEq] at e3
    subst e3
    rw [enumD_at, Option.map_eq_some_iff] at hx
    obtain ⟨d, hd, rfl⟩ := hx
    have := co_pair ht hT (.i ((0 : Int) + i)) ((c.fm f).at' hd e4)
    simpa using this
def zipD : List Dt → List Dt → List Dt
  | x :: xs, y :: ys => .t [x, y] :: zipD xs ys
  | _, _ => []
theorem zipD_len : ∀ (xs ys : List Dt), (zipD xs ys).length = min xs.length ys.length
  | [], ys => by simp [zipD]
  | _ :: _, [] => by simp [zipD]
  | x :: xs, y :: ys => by simp [zipD, zipD_len xs ys]
theorem zipD_at : ∀ (xs ys : List Dt) (i : Nat) (d : Dt), (zipD xs ys)[i]? = some d → ∃ x y, xs[i]? = some x ∧ ys[i]? = some y ∧ d = .t [x, y]
  | [], ys, i, d, h => by simp [zipD] at h
  | _ :: _, [], i, d, h => by simp [zipD] at h
  | x :: xs, y :: ys, 0, d, h => by
    simp [zipD] at h
    exact ⟨x, y, rfl, rfl, h.symm⟩
  | x :: xs, y :: ys, i + 1, d, h => by
    simp only [zipD, List.getElem?_cons_succ] at h ⊢
    exact zipD_at xs ys i d h
theorem src_zip {a b : Addr} {us ws : List V} {xs ys : List Dt} (h1 : Rd H a (.lst us)) (hn1 : ¬ M a) (c1 : CoL K M H us xs) (h2 : Rd H b (.lst ws)) (hn2 : ¬ M b) (c2 : CoL K M H ws ys) : SrcOk K (Itz K a b) M H (zipD xs ys) :=
  src_walk (walk_zip (K := K) (a := a) (b := b) (xs := us) (ys := ws) rfl) (by rw [c1.len, c2.len, zipD_len]) (fun M1 H1 f => ⟨.inl (f.rd h1 hn1), .inl (f.rd h2 hn2)⟩) fun i x v M1 H1 H2 hx f ht ⟨T, x1, y1, e1, hT, e2, e3, e4⟩ => by
    subst e1 e2
    obtain ⟨dx, dy, q1, q2, rfl⟩ := zipD_at _ _ _ _ hx
    exact co_pair ht hT ((c1.fm f).at' q1 e3) ((c2.fm f).at' q2 e4)
theorem walk_zipT {a b : Addr} {xs ys : List V} {n : Nat} (hn : n = min xs.length ys.length) : Walk (RZ.ItzT K a b) n (fun H => SqT K H a xs ∧ SqT K H b ys) (YPair (fun i => xs[i]?) (fun i => ys[i]?)) := by
  subst hn
  refine ⟨fun i _ hi q => ?_, fun _ q => ⟨xs, ys, q.1, q.2, by omega⟩, fun i H v H' _ q y => ?_⟩
  · have h1 : i < xs.length := by omega
    have h2 : i < ys.length := by omega
    exact ⟨xs, ys, xs[i], ys[i], q.1, q.2, by simp [h1], by simp [h2]⟩
  · obtain ⟨T, x, z, h1, h2, h3, h4, h5⟩ := y
    exact ⟨T, x, z, h1, h2, h3, h4 xs q.1, h5 ys q.2⟩
theorem src_zipT {a b : Addr} {us ws : List V} {xs ys : List Dt} (h1 : SqT K H a us) (c1 : CoL K M H us xs) (h2 : SqT K H b ws) (c2 : CoL K M H ws ys) : SrcOk K (RZ.ItzT K a b) M H (zipD xs ys) :=
  src_walk (walk_zipT (K := K) (a := a) (b := b) (xs := us) (ys := ws) rfl) (by rw [c1.len, c2.len, zipD_len]) (fun M1 H1 f => ⟨f.sqT h1, f.sqT h2⟩) fun i x v M1 H1 H2 hx f ht ⟨T, x1, y1, e1, hT, e2, e3, e4⟩ => by
    subst e1 e2
    obtain ⟨dx, dy, q1, q2, rfl⟩ := zipD_at _ _ _ _ hx
    exact co_pair ht hT ((c1.fm f).at' q1 e3) ((c2.fm f).at' q2 e4)
theorem src_rev {a : Addr} {us : List V} {xs : List Dt} (h : Rd H a (.lst us)) (hn : ¬ M a) (c : CoL K M H us xs) : SrcOk K (Itv K a us.length) M H xs.reverse :=
  src_walk (walk_rev (K := K) (a := a) (xs := us)) (by rw [List.length_reverse, c.len]) (fun M1 H1 f => .inl (f.rd h hn)) fun i x v M1 H1 H2 hx f ht ⟨e, hv⟩ => by
    subst e
    rw [List.getElem?_reverse (by have := (List.getElem?_eq_some_iff.mp hx).1; simpa using this), ← c.len] at hx
    exact ⟨fun _ _ h => h, (c.fm f).at' hx hv⟩
theorem src_revT {a : Addr} {us : List V} {xs : List Dt} (h : SqT K H a us) (c : CoL K M H us xs) : SrcOk K (RT.ItvT K a us.length) M H xs.reverse := by
  refine ⟨fun i M1 H1 hi f => ?_, fun M1 H1 f => ?_, fun i x v M1 H1 H2 hx f ht y => ?_⟩
  · have hi' : i < us.length := by rw [c.len]; simpa using hi
    exact ⟨hi', us, us[us.length - 1 - i]'(by omega), f.sqT h, by simp [show us.length - 1 - i < us.length by omega]⟩
  · show us.length ≤ _
    rw [c.len]; simp
  · obtain ⟨e, hv⟩ := y
    subst e
    rw [List.getElem?_reverse (by have := (List.getElem?_eq_some_iff.mp hx).1; simpa using this), ← c.len] at hx
    exact ⟨fun _ _ h => h, (c.fm f).at' hx (hv us (f.sqT h))⟩
end
section
variable {X : Cx} {cl : Str → Addr} {W : WX} {K : PySem.W.Frag}
/-! ### a sequence itself -/
def rSeq (K : PySem.W.Frag) : List V → Hp → (It → Hp → Prop) → Prop := fun vs H R => ∃ a, vs = [.ref a] ∧ (((∃ xs, SqL K H a xs) ∧ R (Itl K a) H) ∨ ((∃ xs, SqT K H a xs) ∧ R (Itt K a) H))
def iSeq (K : PySem.W.Frag) (tl : TE) : TI := fun σ H R => tl σ H fun x H1 => rSeq K [x] H1 R
theorem pi_seq {tg l : Expr} {tl : TE} (hl : PE X l tl) : PI X tg l (iSeq X.K tl) := by
  refine ⟨fun pins s σ H R I h => ?_⟩
  refine thn (hl.run pins s σ H _ I h) fun v s1 ⟨x, H1, I1, r1, q1⟩ => ?_
  obtain ⟨a, e, q⟩ := q1
  have e : x = .ref a := by simpa using e
  subst e
  cases r1
  rcases q with ⟨⟨xs, hq⟩, q⟩ | ⟨⟨xs, hq⟩, q⟩
  · obtain ⟨its, rv, p, hz⟩ := I1.list hq
    refine wpAny_pyIter_list p.isList ?_
    refine ⟨s1.heap.objs.size, [s1.heap.objs.size], _, _, H1, rfl, I1.kept (t' := s1.toks) fun b o e => Heap.get?_push_of_some _ e, turn_list a _, ⟨_, Heap.get?_push_size _ rfl, rfl, rfl⟩, fun b hb => ?_, q⟩
    have e : b = s1.heap.objs.size := by simpa using hb
    subst e
    exact I1.fpOk (Nat.le_refl _) (I1.hok.fresh (Nat.le_refl _))
  · obtain ⟨its, rv, p, hz⟩ := I1.tuple hq
    refine wpAny_pyIter_tuple (show s1.heap.IsTuple a its.toArray from p) ?_
    refine ⟨s1.heap.objs.size, [s1.heap.objs.size], _, _, H1, rfl, I1.kept (t' := s1.toks) fun b o e => Heap.get?_push_of_some _ e, turn_tuple a _, ⟨_, Heap.get?_push_size _ rfl, rfl, rfl⟩, fun b hb => ?_, q⟩
    have e : b = s1.heap.objs.size := by simpa using hb
    subst e
    exact I1.fpOk (Nat.le_refl _) (I1.hok.fresh (Nat.le_refl _))
def sSq : List Dt → Option (List Dt)
  | [.l xs] => some xs
  | [.t xs] => some xs
  | [.z xs] => some xs
  | _ => none
theorem Co.lst' {M : Addr → Prop} {H : Hp} {v : V} {xs : List Dt} (c : Co K M H v (.l xs)) : ∃ a vs, v = .ref a ∧ H a = some (.lst vs) ∧ ¬ M a ∧ CoL K M H vs xs := by cases c with | l h n q => exact ⟨_, _, rfl, h, n, q⟩
theorem frz_cold {M : Addr → Prop} {H : Hp} {a : Addr} {o : Obj} {u : HO} (ht : Hotty M H) (h : H a = some (.frz o u)) : ¬ M a := fun z => by obtain ⟨xs, e⟩ := ht a z; rw [h] at e; cases e
theorem ps_seq : PrS K (rSeq K) sSq := fun M H vs xs ds R ht c hf k => by
  unfold sSq at hf
  split at hf
  · cases hf
    obtain ⟨v, rfl, c1⟩ := c.one
    obtain ⟨a, us, rfl, h1, hn, q1⟩ := c1.lst'
    exact ⟨a, rfl, .inl ⟨⟨us, .inl (.inl h1)⟩, k _ (src_list (fun M1 H1 f => .inl (f.rd (.inl h1) hn)) q1)⟩⟩
  · cases hf
    obtain ⟨v, rfl, c1⟩ := c.one
    obtain ⟨a, us, rfl, h1, q1⟩ := c1.tup
    exact ⟨a, rfl, .inr ⟨⟨us, h1⟩, k _ (src_tup h1 q1)⟩⟩
  · cases hf
    obtain ⟨v, rfl, c1⟩ := c.one
    obtain ⟨a, us, rfl, h1, q1⟩ := c1.frz
    exact ⟨a, rfl, .inl ⟨⟨us, h1.sq⟩, k _ (src_list (fun M1 H1 f => (f.sqF h1).sq) q1)⟩⟩
  · cases hf
theorem ji_seq {tg e : Expr} {a : Am} (h : JO X cl W e a) : JI X cl W tg e (mS sSq [a]) := fun tk => (pi_seq (h.pe tk)).yimp fun σ H R q => mS_ok ps_seq q
/-! ### ranges -/
def sRng1 : List Dt → Option (List Dt) := fun xs => match xs with
  | [.i j] => if -(2 ^ 60) ≤ j ∧ j ≤ LIM then some (rngD 0 j.toNat) else none
  | _ => none
theorem ps_rg1 : PrS K (fun vs H R => ∃ j : Int, vs = [.int j] ∧ -(2 ^ 62) ≤ j ∧ j < 2 ^ 62 ∧ R (Itr 0 j.toNat) H) sRng1 := fun M H vs xs ds R ht c hf k => by
  unfold sRng1 at hf
  split at hf
  · split at hf
    · rename_i hj
      cases hf
      obtain ⟨v, rfl, c1⟩ := c.one
      have := hj.2
      simp only [LIM] at this
      exact ⟨_, by rw [c1.int], by omega, by omega, k _ (src_range ht)⟩
    · cases hf
  · cases hf
def sRng2 : List Dt → Option (List Dt) := fun xs => match xs with
  | [.i i, .i j] => if -(2 ^ 60) ≤ i ∧ i ≤ 2 ^ 60 ∧ -(2 ^ 60) ≤ j ∧ j ≤ 2 ^ 60 ∧ j - i ≤ LIM then some (rngD i (j - i).toNat) else none
  | _ => none
theorem ps_rg2 : PrS K (fun vs H R => ∃ i j : Int, vs = [.int i, .int j] ∧ (-(2 ^ 62) ≤ i ∧ i < 2 ^ 62 ∧ -(2 ^ 62) ≤ j ∧ j < 2 ^ 62) ∧ R (Itr i (j - i).toNat) H) sRng2 := fun M H vs xs ds R ht c hf k => by
  unfold sRng2 at hf
  split at hf
  · split at hf
    · rename_i hj
      cases hf
      obtain ⟨v, w, rfl, c1, c2⟩ := c.two
      exact ⟨_, _, by rw [c1.int, c2.int], ⟨by omega, by omega, by omega, by omega⟩, k _ (src_range ht)⟩
    · cases hf
  · cases hf
/-- range(a, b, -1) -/
def sRng3 : List Dt → Option (List Dt) := fun xs => match xs with
  | [.i i, .i j, .i c] => if c = -1 ∧ -(2 ^ 60) ≤ i ∧ i ≤ 2 ^ 60 ∧ -(2 ^ 60) ≤ j ∧ j ≤ 2 ^ 60 ∧ i - j ≤ LIM then some (rngC i (-1) (i - j).toNat) else none
  | _ => none
theorem ps_rg3 : PrS K (fun vs H R => ∃ (i j c : Int) (n : Nat), vs = [.int i, .int j, .int c] ∧ RgC i j c n ∧ R (Itc i c n) H) sRng3 := fun M H vs xs ds R ht c hf k => by
  unfold sRng3 at hf
  split at hf
  · split at hf
    · rename_i hj
      cases hf
      obtain ⟨v, w, u, rfl, c1, c2, c3⟩ := c.three
      obtain ⟨rfl, h1, h2, h3, h4, h5⟩ := hj
      exact ⟨_, _, -1, _, by rw [c1.int, c2.int, c3.int], RgC.neg (by omega) (by omega) (by omega) (by omega), k _ (src_rangeC ht)⟩
    · cases hf
  · cases hf
theorem ji_rng1 {tg a : Expr} {A : Am} {p pos : Pos} (hg : Gl X "range") (hm : X.mg "range" = none) (ha : JO X cl W a A) (hs : starEach [a] X.env = [(false, eval a X.env)] := by rfl) : JI X cl W tg (.Call (.Name "range" p) [a] [] pos) (mS sRng1 [A]) := fun tk =>
  (pi_range1 hg hm ((ja_c ha ja_n hs).pa tk) hs).yimp fun σ H R q => mS_ok ps_rg1 q
theorem ji_rng2 {tg a b : Expr} {A B : Am} {p pos : Pos} (hg : Gl X "range") (hm : X.mg "range" = none) (ha : JO X cl W a A) (hb : JO X cl W b B) (hs : starEach [a, b] X.env = [(false, eval a X.env), (false, eval b X.env)] := by rfl) (hs2 : starEach [b] X.env = [(false, eval b X.env)] := by rfl)
    (hs3 : starEach (a :: [b]) X.env = (false, eval a X.env) :: starEach [b] X.env := by rfl) : JI X cl W tg (.Call (.Name "range" p) [a, b] [] pos) (mS sRng2 [A, B]) := fun tk =>
  (pi_range2 hg hm ((ja_c ha (ja_c hb ja_n hs2) hs3).pa tk) hs hs2).yimp fun σ H R q => mS_ok ps_rg2 q
theorem ji_rng3 {tg a b c : Expr} {A B C : Am} {p pos : Pos} (hg : Gl X "range") (hm : X.mg "range" = none) (ha : JO X cl W a A) (hb : JO X cl W b B) (hc : JO X cl W c C) (hs2 : starEach (b :: [c]) X.env = (false, eval b X.env) :: starEach [c] X.env := by rfl) (hs1 : starEach [c] X.env = (false, eval c X.env) :: starEach [] X.env := by rfl)
    (hs3 : starEach [a, b, c] X.env = (false, eval a X.env) :: starEach [b, c] X.env := by rfl) (hpl : (backTo pos (starEach [b, c] X.env)).any (·.1) = false := by rfl) : JI X cl W tg (.Call (.Name "range" p) [a, b, c] [] pos) (mS sRng3 [A, B, C]) := fun tk =>
  (pi_range3 hg hm ((ja_c ha (ja_c hb (ja_c hc ja_n hs1) hs2) hs3).pa tk) hs3 hpl).yimp fun σ H R q => mS_ok ps_rg3 q
/-! ### enumerate, zip, reversed -/
def sEnum : List Dt → Option (List Dt)
  | [.l xs] => some (enumD 0 xs)
  | [.z xs] => some (enumD 0 xs)
  | [.t xs] => some (enumD 0 xs)
  | _ => none
theorem walk_enumT {a : Addr} {us : List V} : Walk (IteT K a) us.length (fun H => SqT K H a us) (YPair (fun i => some (.int (i : Nat))) (fun i => us[i]?)) := by
  refine ⟨fun i _ hi q => ⟨us, us[i], q, by simp [hi]⟩, fun _ q => ⟨us, q, Nat.le_refl _⟩, fun i H v H' _ q ⟨T, x, h1, h2, h3, h4⟩ => ⟨T, .int (i : Nat), x, h1, h2, h3, rfl, h4 us q⟩⟩
theorem src_enumT {a : Addr} {us : List V} {xs : List Dt} (h : SqT K H a us) (c : CoL K M H us xs) : SrcOk K (IteT K a) M H (enumD 0 xs) :=
  src_walk (walk_enumT (K := K) (a := a) (us := us)) (by rw [c.len, enumD_len]) (fun M1 H1 f => f.sqT h) fun i x v M1 H1 H2 hx f ht ⟨T, x1, y1, e1, hT, e2, e3, e4⟩ => by
    subst e1 e2
    simp only [Option.some.injEq] at e3
    subst e3
    rw [enumD_at, Option.map_eq_some_iff] at hx
    obtain ⟨d, hd, rfl⟩ := hx
    have := co_pair ht hT (.i ((0 : Int) + i)) ((c.fm f).at' hd e4)
    simpa using this
theorem ps_enum : PrS K (fun vs H R => ∃ a xs, vs = [.ref a] ∧ ((SqL K H a xs ∧ R (Ite K a) H) ∨ (SqT K H a xs ∧ R (IteT K a) H))) sEnum := fun M H vs xs ds R ht c hf k => by
  unfold sEnum at hf
  split at hf
  · cases hf
    obtain ⟨v, rfl, c1⟩ := c.one
    obtain ⟨a, us, rfl, h1, hn, q1⟩ := c1.lst'
    exact ⟨a, us, rfl, .inl ⟨.inl (.inl h1), k _ (src_enum (fun M1 H1 f => .inl (f.rd (.inl h1) hn)) q1)⟩⟩
  · cases hf
    obtain ⟨v, rfl, c1⟩ := c.one
    obtain ⟨a, us, rfl, h1, q1⟩ := c1.frz
    exact ⟨a, us, rfl, .inl ⟨h1.sq, k _ (src_enum (fun M1 H1 f => (f.sqF h1).sq) q1)⟩⟩
  · cases hf
    obtain ⟨v, rfl, c1⟩ := c.one
    obtain ⟨a, us, rfl, h1, q1⟩ := c1.tup
    exact ⟨a, us, rfl, .inr ⟨h1, k _ (src_enumT h1 q1)⟩⟩
  · cases hf
theorem pi_enumA {e : Expr} {ta : TA} {p pos tpos : Pos} {elts : List Expr} {kk : Nat} (hg : Gl X "enumerate") (hm : X.mg "enumerate" = none) (ha : PA X [e] ta) (hs : starEach [e] X.env = [(false, eval e X.env)] := by rfl) : PI X (.Tuple elts kk tpos) (.Call (.Name "enumerate" p) [e] [] pos) (iEnumA X.K ta) :=
  ⟨fun pins s σ H R I h => Call_ (ld_blt I hg hm boot_enumerate (PyProof.Rows.callWith_type1 (thn (ha.run pos pins s σ H _ I h) fun us s1 ⟨vs, H1, I1, r1, a, xs, ex, z⟩ => by
    rcases z with ⟨hq, q⟩ | ⟨hq, q⟩
    · exact enumL_go I1 r1 ex hq q
    · exact enumT_go I1 r1 ex hq q) hs rfl))⟩
theorem ji_enum {a : Expr} {A : Am} {p pos tpos : Pos} {elts : List Expr} {kk : Nat} (hg : Gl X "enumerate") (hm : X.mg "enumerate" = none) (ha : JO X cl W a A) (hs : starEach [a] X.env = [(false, eval a X.env)] := by rfl) : JI X cl W (.Tuple elts kk tpos) (.Call (.Name "enumerate" p) [a] [] pos) (mS sEnum [A]) := fun tk =>
  (pi_enumA hg hm ((ja_c ha ja_n hs).pa tk) hs).yimp fun σ H R q => mS_ok ps_enum q
def sZip : List Dt → Option (List Dt)
  | [.l xs, .l ys] => some (zipD xs ys)
  | [.t xs, .t ys] => some (zipD xs ys)
  | _ => none
theorem ps_zip : PrS K (fun vs H R => ∃ a b xs ys, vs = [.ref a, .ref b] ∧ ((SqL K H a xs ∧ SqL K H b ys ∧ R (Itz K a b) H) ∨ (SqT K H a xs ∧ SqT K H b ys ∧ R (RZ.ItzT K a b) H))) sZip := fun M H vs xs ds R ht c hf k => by
  unfold sZip at hf
  split at hf
  · cases hf
    obtain ⟨v, w, rfl, c1, c2⟩ := c.two
    obtain ⟨a, us, rfl, h1, hn, q1⟩ := c1.lst'
    obtain ⟨b, ws, rfl, h2, hn2, q2⟩ := c2.lst'
    exact ⟨a, b, us, ws, rfl, .inl ⟨.inl (.inl h1), .inl (.inl h2), k _ (src_zip (.inl h1) hn q1 (.inl h2) hn2 q2)⟩⟩
  · cases hf
    obtain ⟨v, w, rfl, c1, c2⟩ := c.two
    obtain ⟨a, us, rfl, h1, q1⟩ := c1.tup
    obtain ⟨b, ws, rfl, h2, q2⟩ := c2.tup
    exact ⟨a, b, us, ws, rfl, .inr ⟨h1, h2, k _ (src_zipT h1 q1 h2 q2)⟩⟩
  · cases hf
theorem ji_zip {a b : Expr} {A B : Am} {p pos tpos : Pos} {elts : List Expr} {kk : Nat} (hg : Gl X "zip") (hm : X.mg "zip" = none) (ha : JO X cl W a A) (hb : JO X cl W b B) (hs : starEach [a, b] X.env = (false, eval a X.env) :: starEach [b] X.env := by rfl) (hs2 : starEach [b] X.env = (false, eval b X.env) :: starEach [] X.env := by rfl)
    (hpl : (backTo pos (starEach [b] X.env)).any (·.1) = false := by rfl) : JI X cl W (.Tuple elts kk tpos) (.Call (.Name "zip" p) [a, b] [] pos) (mS sZip [A, B]) := fun tk =>
  (RZ.pi_zipA hg hm ((ja_c ha (ja_c hb ja_n hs2) hs).pa tk) hs hpl).yimp fun σ H R q => mS_ok ps_zip q
def sRev : List Dt → Option (List Dt)
  | [.l xs] => some xs.reverse
  | [.t xs] => some xs.reverse
  | _ => none
def rRevS (K : PySem.W.Frag) : List V → Hp → (It → Hp → Prop) → Prop
  | [v], H, R => ∃ (a : Addr) (xs : List V), v = .ref a ∧ ((SqL K H a xs ∧ R (Itv K a xs.length) H) ∨ (SqT K H a xs ∧ R (RT.ItvT K a xs.length) H))
  | _, _, _ => False
theorem ps_rev : PrS K (rRevS K) sRev := fun M H vs xs ds R ht c hf k => by
  unfold sRev at hf
  split at hf
  · cases hf
    obtain ⟨v, rfl, c1⟩ := c.one
    obtain ⟨a, us, rfl, h1, hn, q1⟩ := c1.lst'
    exact ⟨a, us, rfl, .inl ⟨.inl (.inl h1), k _ (src_rev (.inl h1) hn q1)⟩⟩
  · cases hf
    obtain ⟨v, rfl, c1⟩ := c.one
    obtain ⟨a, us, rfl, h1, q1⟩ := c1.tup
    exact ⟨a, us, rfl, .inr ⟨h1, k _ (src_revT h1 q1)⟩⟩
  · cases hf
theorem ji_rev {tg a : Expr} {A : Am} {p pos : Pos} (hg : Gl X "reversed") (hm : X.mg "reversed" = none) (ha : JO X cl W a A) (hs : starEach [a] X.env = (false, eval a X.env) :: starEach [] X.env := by rfl) : JI X cl W tg (.Call (.Name "reversed" p) [a] [] pos) (mS sRev [A]) := fun tk =>
  (RT.pi_revA hg hm (ha.pe tk) hs).yimp fun σ H R q => mS_ok ps_rev q
end
end Y
/-! Y, part T: sorted. -/
namespace Y
open PySem L2 PyProof.Rows PySem.W PySem.Calls
section
variable {prog : Program} {w : World} {A : Around} {E : Value → Shared → Prop} {s : Shared}
theorem collect_at {Q : List Value → Shared → Prop} (it : Addr) {T : String} {o : Obj} {items : Array Value} {n : Nat} (hT : T = "list" ∨ T = "tuple") (ho : s.heap.get? it = some o) (hc : o.cls = .type T) (hd : o.data = .seq items n)
    (hQ : ∀ h', (∀ b o', s.heap.get? b = some o' → h'.get? b = some o') → s.heap.objs.size ≤ h'.objs.size → Q items.toList { s with heap := h' }) (hsz : items.size ≤ sizeLine) : wpAny (model prog w) A (collect (.ref it)) Q E s := by
  unfold collect
  refine wpAny_bind (wpAny_runValue (codeAny_builtin F.entry_proto_collect ?_))
  rw [Around.under_plainId F.plain_proto_collect _]
  show wpAny _ A.in1 (newList [] >>= fun l => again (.builtin "list.__iadd__" ⟨[l, .ref it], []⟩)) _ _ s
  refine wpAny_bind (wpAny_newObj_type ?_)
  refine wpAny_pure ⟨plainId_quiet F.plain_list_iadd _, codeAny_builtin F.entry_list_iadd ?_⟩
  rw [Around.under_plainId F.plain_list_iadd _]
  show wpAny _ A.in1 (Builtin.List.listExtendWith (.ref s.heap.objs.size) (.ref it) (.ref s.heap.objs.size)) _ _ _
  have hS : (s.heap.push { cls := .type "list", data := .seq ([] : List Value).toArray }).get? s.heap.objs.size = some { cls := .type "list", data := .seq #[] 0 } := Heap.get?_push_size _ rfl
  have hS₂ := Heap.get?_update_self (Obj.mapSeq (· ++ items)) hS rfl
  have fin' : wpAny (model prog w) A (match Value.ref s.heap.objs.size with
      | Value.ref a => do
        match (← load a).data with
          | Data.seq xs _ => pure xs.toList
          | _ => unsupported "internal:collect"
      | _ => unsupported "internal:collect") Q E { s with heap := (s.heap.push { cls := .type "list", data := .seq ([] : List Value).toArray }).update s.heap.objs.size (Obj.mapSeq (· ++ items)) } := by
    show wpAny _ A (load s.heap.objs.size >>= _) _ _ _
    refine wpAny_bind (wpAny_load hS₂ ?_)
    refine wpAny_pure ?_
    have e : ((#[] : Array Value) ++ items).toList = items.toList := by simp
    show Q ((#[] : Array Value) ++ items).toList _
    rw [e]
    refine hQ _ (fun b o' hb => ?_) ?_
    · exact (Heap.get?_update_other _ _ (Nat.ne_of_gt (Heap.lt_size hb))).trans (Heap.get?_push_of_some _ hb)
    · rw [Heap.size_update, Heap.size_push]; exact Nat.le_succ _
  refine wpAny_mono (wpAny_extend_seq (hsz := hsz) (A := A) (R := fun r s' => r = .ok (.ret (.ref s.heap.objs.size)) ∧ s' = { s with heap := (s.heap.push { cls := .type "list", data := .seq ([] : List Value).toArray }).update s.heap.objs.size (Obj.mapSeq (· ++ items)) })
    (s := { s with heap := s.heap.push { cls := .type "list", data := .seq ([] : List Value).toArray } }) _ it _ 0 hT hS (Heap.get?_push_of_some _ ho) hc hd ⟨rfl, rfl⟩) (fun fin s' h => ?_) (fun e s' h => ?_)
  · cases fin with
    | done f =>
      obtain ⟨e, rfl⟩ := h
      cases e
      exact fin'
    | again c' => exact ⟨h.1, codeAny_mono h.2 fun r s'' hr => by obtain ⟨rfl, rfl⟩ := hr; exact fin'⟩
  · exact absurd h.1 (by simp)
/-- sorted(x), x a list or a tuple of alike data -/
theorem sorted_seqD {β : Type} {enc : β → PyData} {R : Value → β → Prop} {bs : List β} {l : Addr} {T : String} {o : Obj} {vs : List Value} {n : Nat} {Q : Value → Shared → Prop} (hT : T = "list" ∨ T = "tuple") (ho : s.heap.get? l = some o) (hc : o.cls = .type T) (hd : o.data = .seq vs.toArray n)
    (e : EachIs R vs bs) (er : EachIs (fun v b => ∃ as, Reads s.heap v (enc b) as) vs bs) (hal : AllAlike (bs.map enc)) (hk : Sortable (bs.map enc)) (hL : bs.length ≤ sizeLine) (hu : ∀ b, b ∈ bs → A.units + 2 + (enc b).depth < cLine)
    (h : ∀ h' out, (∀ b u, s.heap.get? b = some u → h'.get? b = some u) → out.length = bs.length → EachIs R out (bs.mergeSort (dataLe false enc)) → ∀ a ep, s.heap.objs.size ≤ a → h'.get? a = some (seqObj "list" (List.toArray out) ep) → Q (.ref a) { s with heap := h' }) :
    wpAny (model prog w) A (call (.builtin "sorted") [.ref l]) Q E s := by
  have hL' : vs.length ≤ sizeLine := by rw [e.length]; exact hL
  refine call_function_entry_kw kind_sorted plain_sorted entry_sorted (args_sorted1 _) ?_
  unfold Builtin.«sorted»
  refine wpAny_bind (m := checkCount "sorted" 1 1 _) (wpAny_pure ?_)
  refine wpAny_bind (collect_at l hT ho hc hd (fun h1 hk1 hz1 => ?_) (by rw [List.size_toArray]; exact hL'))
  refine wpAny_bind (wpAny_newList ?_ (by simpa using hL'))
  have at2 : (h1.push (seqObj "list" vs.toArray 0)).get? h1.objs.size = some (seqObj "list" vs.toArray 0) := Heap.get?_push_size _ rfl
  show wpAny _ _ _ _ _ { s with heap := h1.push (seqObj "list" vs.toArray 0) }
  have old2 : ∀ b u, s.heap.get? b = some u → b ≠ h1.objs.size ∧ (h1.push (seqObj "list" vs.toArray 0)).get? b = some u := fun b u q => ⟨Nat.ne_of_lt (Heap.lt_size (hk1 b u q)), Heap.get?_push_of_some _ (hk1 b u q)⟩
  refine wpAny_bind (wpAny_holding (wpAny_call_entry_kw slot_list_sort ⟨_, at2, rfl⟩ entry_list_sort ?body (args_list_sort _)))
  case body =>
    show wpAny (model prog w) A.in1.in1 (Builtin.«list.sort» ⟨[.ref h1.objs.size], []⟩) _ _ _
    have er' : EachIs (fun v b => ∃ as, Reads (sortingHeap (h1.push (seqObj "list" vs.toArray 0)) h1.objs.size vs) v (enc b) as) vs bs := er.mono fun _ _ ⟨as, r⟩ => ⟨as, PyProof.Rows.Reads.keeps (fun b u q => sortingHeap_old (old2 b u q).1 (old2 b u q).2) r⟩
    refine list_sort_vals (s := { s with heap := h1.push (seqObj "list" vs.toArray 0) }) (κ := dataKind (sortingHeap (h1.push (seqObj "list" vs.toArray 0)) h1.objs.size vs) (bs.map enc)) at2 (SortsAt.data (s := { s with heap := sortingHeap (h1.push (seqObj "list" vs.toArray 0)) h1.objs.size vs }) (each_map (R := fun v d => ∃ as, Reads (sortingHeap (h1.push (seqObj "list" vs.toArray 0)) h1.objs.size vs) v d as) enc er') hal hk (bound_map hu)) hL' ?_
    obtain ⟨ep, he⟩ := PyProof.Rows.sortedHeap_at (vs := vs) (out := (sortVals (dataKind (sortingHeap (h1.push (seqObj "list" vs.toArray 0)) h1.objs.size vs) (bs.map enc)) false vs vs).toArray) at2
    refine ⟨_, rfl, wpAny_pure ⟨_, rfl, ?_⟩⟩
    refine h _ _ (fun b u q => ?_) (by rw [sortVals_length false rfl]; exact e.length) (sortVals_data false e er' hal) _ ep ?_ he
    · have q2 := old2 b u q
      rw [PyProof.Rows.sortedHeap_old q2.1 (Heap.lt_size q2.2)]; exact q2.2
    · exact hz1
end

section
variable {X : Cx} {K : PySem.W.Frag} {M M' : Addr → Prop} {H H' : Hp}
def encD (b : V × Dt) : PyData := toP b.2
noncomputable def rSortD (K : PySem.W.Frag) : List V → Hp → VK → Prop := fun vs H Q => ∃ (a : Addr) (bs : List (V × Dt)), vs = [V.ref a] ∧ (SqL K H a (bs.map (·.1)) ∨ SqT K H a (bs.map (·.1))) ∧ (∀ b ∈ bs, Dp K H b.1 (toP b.2)) ∧ AllAlike (bs.map encD) ∧ Sortable (bs.map encD) ∧ (∀ b ∈ bs, (toP b.2).depth ≤ 50) ∧ bs.length ≤ sizeLine ∧
  ∀ p, H p = none → Q (.ref p) (upd H p (.lst ((bs.mergeSort (dataLe false encD)).map (·.1))))
theorem vals_each {pins : List (Addr × Obj)} {σ : L2.St} {s : Shared} (I : Inv X pins σ H s) : ∀ {bs : List (V × Dt)} {its : List Value}, Vals (bs.map (·.1)) its → (∀ b ∈ bs, Dp X.K H b.1 (toP b.2)) → EachIs (fun u b => ∃ as, Reads s.heap u (encD b) as) its bs ∧ EachIs (fun u b => RelV b.1 u) its bs
  | [], _, .nil, _ => ⟨.nil, .nil⟩
  | b :: bs, _, .cons r t, h => by
    obtain ⟨h1, h2⟩ := vals_each I t fun c hc => h c (List.mem_cons_of_mem _ hc)
    obtain ⟨as, ha⟩ := Dp.reads I _ _ _ (h b List.mem_cons_self) r
    exact ⟨.cons ⟨as, ha⟩ h1, .cons r h2⟩
theorem each_vals : ∀ {bs : List (V × Dt)} {its : List Value}, EachIs (fun u (b : V × Dt) => RelV b.1 u) its bs → Vals (bs.map (·.1)) its
  | _, _, .nil => .nil
  | _, _, .cons r t => .cons r (each_vals t)
theorem cr_sortD (hu : X.A.units + 64 < cLine) : CallR X (.builtin "sorted") (rSortD X.K) := by
  intro pins s σ H xs us Q I r h
  obtain ⟨a, bs, rfl, hs, hd, hal, hk, hdp, hL, q⟩ := h
  rw [Vals.ref1 r]
  have go : ∀ {T : String} {o : Obj} {its : List Value} {n : Nat}, T = "list" ∨ T = "tuple" → s.heap.get? a = some o → o.cls = .type T → o.data = .seq its.toArray n → Vals (bs.map (·.1)) its → wpAny (model X.prog X.w) X.A (call (.builtin "sorted") [.ref a]) (EP X pins σ Q) X.xe s := fun {T o its n} hT ho hc hdt rv => by
    obtain ⟨e1, e2⟩ := vals_each I rv hd
    refine sorted_seqD (enc := encD) hT ho hc hdt e2 e1 hal hk hL (fun b hb => by have : (encD b).depth ≤ 50 := hdp b hb; omega) fun h' out kp hlen hout p ep hp hat => ?_
    have vv := each_vals hout
    have hlen' : ((bs.mergeSort (dataLe false encD)).map (·.1)).length ≤ sizeLine := by rw [List.length_map, List.length_mergeSort]; exact hL
    exact ⟨.ref p, upd H p (.lst ((bs.mergeSort (dataLe false encD)).map (·.1))), I.laid (t' := s.toks) kp hp ⟨hlen', out, ep, vv, hat⟩, rfl, q p (I.hok.fresh hp)⟩
  rcases hs with hs | hs
  · obtain ⟨its, rv, ⟨⟨cls, dd, data, sl⟩, n, ho, hc, hdn, hd'⟩, hlen⟩ := I.list hs
    exact go (.inl rfl) ho hc hd' rv
  · obtain ⟨its, rv, ⟨⟨cls, dd, data, sl⟩, ho, hc, n, hd'⟩, hlen⟩ := I.tuple hs
    exact go (.inr rfl) ho hc hd' rv
/-- the order of data -/
noncomputable def leD (x y : Dt) : Bool := dataLe false toP x y
noncomputable def sortD (xs : List Dt) : List Dt := xs.mergeSort leD
def alikeL (ds : List PyData) : Bool := ds.all fun d => ds.all fun d' => alike d d'
theorem alikeL_ok {ds : List PyData} (h : alikeL ds = true) : AllAlike ds := fun d hd d' hd' => by
  simp only [alikeL, List.all_eq_true] at h
  exact h d hd d' hd'
def tupHd : PyData → Bool
  | .tuple (_ :: _) => true
  | _ => false
def noTup : PyData → Bool
  | .tuple _ => false
  | .none => false
  | _ => true
def sortable (ds : List PyData) : Bool := ds.all tupHd || ds.all noTup
theorem sortable_ok {ds : List PyData} (h : sortable ds = true) : Sortable ds := by
  simp only [sortable, Bool.or_eq_true, List.all_eq_true] at h
  rcases h with h | h
  · refine .inl fun d hd => ?_
    have := h d hd
    unfold tupHd at this
    split at this
    · exact ⟨_, _, rfl⟩
    · cases this
  · refine .inr fun d hd => ?_
    have := h d hd
    constructor
    · intro z; subst z; simp [noTup] at this
    · intro xs z; subst z; simp [noTup] at this
def okSort (xs : List Dt) : Bool := alikeL (xs.map toP) && sortable (xs.map toP) && xs.all (fun x => decide ((toP x).depth ≤ 50)) && decide (xs.length ≤ LIM)
noncomputable def fSorted : List Dt → Option Vl
  | [.l xs] => if okSort xs then some (.l (sortD xs), .t) else none
  | [.t xs] => if okSort xs then some (.l (sortD xs), .t) else none
  | [.z xs] => if okSort xs then some (.l (sortD xs), .t) else none
  | _ => none
theorem CoL.zip {vs : List V} {xs : List Dt} (c : CoL K M H vs xs) : (vs.zip xs).map (·.1) = vs ∧ (vs.zip xs).map (·.2) = xs ∧ ∀ b ∈ vs.zip xs, Co K M H b.1 b.2 := by
  induction c using CoL.rec (motive_1 := fun _ _ _ => True) with
  | nil => exact ⟨rfl, rfl, fun _ z => nomatch z⟩
  | cons h q _ ih =>
    obtain ⟨h1, h2, h3⟩ := ih
    refine ⟨by simp [h1], by simp [h2], fun b hb => ?_⟩
    rcases List.mem_cons.mp hb with e | hb
    · subst e; exact h
    · exact h3 b hb
  | _ => trivial
theorem CoL.of_pairs : ∀ {bs : List (V × Dt)}, (∀ b ∈ bs, Co K M H b.1 b.2) → CoL K M H (bs.map (·.1)) (bs.map (·.2))
  | [], _ => .nil
  | b :: bs, h => .cons (h b List.mem_cons_self) (CoL.of_pairs fun c hc => h c (List.mem_cons_of_mem _ hc))
theorem sort_fin {a : Addr} {us : List V} {xs : List Dt} {Q : VK} (ht : Hotty M H) (hs : SqL K H a us ∨ SqT K H a us) (c : CoL K M H us xs) (hok : okSort xs = true) (k : ∀ v H' F, Mk K H M v (.l (sortD xs)) .t H' F → Q v H') : rSortD K [.ref a] H Q := by
  simp only [okSort, Bool.and_eq_true, List.all_eq_true, decide_eq_true_eq] at hok
  obtain ⟨⟨⟨o1, o2⟩, o3⟩, o4⟩ := hok
  obtain ⟨z1, z2, z3⟩ := c.zip
  have e : (us.zip xs).map encD = xs.map toP := by
    have : (us.zip xs).map encD = ((us.zip xs).map (·.2)).map toP := by rw [List.map_map]; rfl
    rw [this, z2]
  have es : ((us.zip xs).mergeSort (dataLe false encD)).map (·.2) = sortD xs := by
    have := List.map_mergeSort (f := fun (x : V × Dt) => x.2) (r := dataLe false encD) (s := leD) (l := us.zip xs) (fun a _ b _ => rfl)
    rw [this, z2]; rfl
  refine ⟨a, us.zip xs, rfl, by rw [z1]; exact hs, fun b hb => (z3 b hb).dp (nob_dep _ (by have := o3 b.2 (by rw [← z2]; exact List.mem_map_of_mem hb); omega)), by rw [e]; exact alikeL_ok o1, by rw [e]; exact sortable_ok o2, fun b hb => o3 b.2 (by rw [← z2]; exact List.mem_map_of_mem hb), ?_, fun p hp => ?_⟩
  · have : (us.zip xs).length = xs.length := by
      have := congrArg List.length z2
      simpa using this
    rw [this]; exact lim_size o4
  · have c2 : CoL K M H (((us.zip xs).mergeSort (dataLe false encD)).map (·.1)) (((us.zip xs).mergeSort (dataLe false encD)).map (·.2)) := CoL.of_pairs fun b hb => z3 b (List.mem_mergeSort.mp hb)
    rw [es] at c2
    exact k _ _ _ (mk_lst ht hp c2)
theorem pr_sorted : Pr K (rSortD K) fSorted := fun M H vs xs x m Q ht c hf k => by
  unfold fSorted at hf
  split at hf
  · split at hf
    · rename_i h
      cases hf
      obtain ⟨v, rfl, c1⟩ := c.one
      obtain ⟨a, us, rfl, h1, q1⟩ := c1.lst
      exact sort_fin ht (.inl (.inl (.inl h1))) q1 h k
    · cases hf
  · split at hf
    · rename_i h
      cases hf
      obtain ⟨v, rfl, c1⟩ := c.one
      obtain ⟨a, us, rfl, h1, q1⟩ := c1.tup
      exact sort_fin ht (.inr h1) q1 h k
    · cases hf
  · split at hf
    · rename_i h
      cases hf
      obtain ⟨v, rfl, c1⟩ := c.one
      obtain ⟨a, us, rfl, h1, q1⟩ := c1.frz
      exact sort_fin ht (.inl (h1.sq)) q1 h k
    · cases hf
  · cases hf
end
end Y
/-! Y, part U: more calls, more operators. -/
namespace Y
open PySem L2 PyProof.Rows
section
variable {K : PySem.W.Frag} {cl : Str → Addr} {W : WX} {io : Bool} {M M' M0 : Addr → Prop} {H H' H0 : Hp} {G G' G0 : Nat → List Addr} {r r' : Ev} {σ σ0 : L2.St}
/-! ### a call whose first argument, just made, may be changed -/
def mCM (fn : Fn) (f : Ev → Ou Vl) (as : List Am) : Ev → Ou Vl := fun r => match f r with
  | .ok xm r1 => match evA as r1 with
    | .ok ys r2 => match look r2 ys with
      | some xs => match fn (xm :: cold xs) with
        | .rt (x, m) z => .ok (x, m) (if zfl (x, m) && zfl z then r2 else frz ys r2)
        | .ex c fs z => if flatF fs && zfl z then .ex c fs r2 else .no
        | .no => .no
      | none => .no
    | .ex c fs r2 => .ex c fs r2
    | .no => .no
  | .ex c fs r1 => .ex c fs r1
  | .no => .no
theorem look_ext {o : Option Vl} : ∀ {ys : List Ag} {r : Ev} {xs : List Dt}, look r ys = some xs → look (r ++ [o]) ys = some xs
  | [], _, _, h => h
  | .d x :: ys, r, xs, h => by
    simp only [look, Option.map_eq_some_iff] at h ⊢
    obtain ⟨zs, h1, h2⟩ := h
    exact ⟨zs, look_ext h1, h2⟩
  | .v i :: ys, r, xs, h => by
    simp only [look] at h ⊢
    cases hr : r[i]? with
    | none => rw [hr] at h; cases h
    | some z =>
      have hi := (List.getElem?_eq_some_iff.mp hr).1
      rw [List.getElem?_append_left hi, hr]
      rw [hr] at h
      cases z with
      | none => cases h
      | some xm =>
        obtain ⟨x, m⟩ := xm
        simp only [Option.map_eq_some_iff] at h ⊢
        obtain ⟨zs, h1, h2⟩ := h
        exact ⟨zs, look_ext h1, h2⟩
theorem frz_ext {o : Option Vl} : ∀ {ys : List Ag} {r : Ev} {xs : List Dt}, look r ys = some xs → frz ys (r ++ [o]) = frz ys r ++ [o]
  | [], _, _, h => rfl
  | .d x :: ys, r, xs, h => by
    simp only [look, Option.map_eq_some_iff] at h
    obtain ⟨zs, h1, h2⟩ := h
    exact frz_ext (ys := ys) h1
  | .v i :: ys, r, xs, h => by
    simp only [look] at h
    cases hr : r[i]? with
    | none => rw [hr] at h; cases h
    | some z =>
      have hi := (List.getElem?_eq_some_iff.mp hr).1
      rw [hr] at h
      cases z with
      | none => cases h
      | some xm =>
        obtain ⟨x, m⟩ := xm
        simp only [Option.map_eq_some_iff] at h
        obtain ⟨zs, h1, h2⟩ := h
        simp only [frz]
        rw [List.getElem?_append_left hi, hr]
        simp only
        rw [List.set_append_left _ _ hi]
        have h3 : ∀ {ys : List Ag} {zs : List Dt}, look r ys = some zs → ∃ zs', look (r.set i (some (x, .c))) ys = some zs' := by
          intro ys
          induction ys with
          | nil => intro zs _; exact ⟨[], rfl⟩
          | cons y ys ih =>
            intro zs h
            cases y with
            | d x =>
              simp only [look, Option.map_eq_some_iff] at h ⊢
              obtain ⟨ws, h1, h2⟩ := h
              obtain ⟨us, q⟩ := ih h1
              exact ⟨_, us, q, rfl⟩
            | v j =>
              simp only [look] at h ⊢
              by_cases q : i = j
              · subst q
                rw [List.getElem?_set_self hi]
                rw [hr] at h
                simp only [Option.map_eq_some_iff] at h ⊢
                obtain ⟨ws, h1, h2⟩ := h
                obtain ⟨us, q⟩ := ih h1
                exact ⟨_, us, q, rfl⟩
              · rw [List.getElem?_set_ne q]
                cases hj : r[j]? with
                | none => rw [hj] at h; cases h
                | some o =>
                  rw [hj] at h
                  cases o with
                  | none => cases h
                  | some xm =>
                    simp only [Option.map_eq_some_iff] at h ⊢
                    obtain ⟨ws, h1, h2⟩ := h
                    obtain ⟨us, q⟩ := ih h1
                    exact ⟨_, us, q, rfl⟩
        obtain ⟨zs', q⟩ := h3 h1
        exact frz_ext q
theorem ER.snoc {v : V} {x : Dt} {m : Md} {F : List Addr} (e : ER K r σ G M H) (rp : Rp K M H m v x F) (nd : F.Nodup) (k : ∀ b ∈ F, M b ∧ ∀ i, b ∉ G i) :
    ER K (r ++ [some (x, m)]) (σ ++ [some v]) (fun j => if j = r.length then F else G j) M H := by
  have h0 : ER K (r ++ [none]) (σ ++ [none]) G M H := e.pad 1
  have hl : r.length < (σ ++ [none]).length := by simp [e.len]
  have := h0.put (i := r.length) rp nd k hl
  have e1 : (r ++ [none]).set r.length (some (x, m)) = r ++ [some (x, m)] := by
    rw [List.set_append_right _ _ (Nat.le_refl _)]; simp
  have e2 : (σ ++ [(none : Option V)]).set r.length (some v) = σ ++ [some v] := by
    rw [e.len, List.set_append_right _ _ (Nat.le_refl _)]; simp
  rw [e1, e2] at this
  exact this
theorem ER.unsnoc {o : Option Vl} {u : Option V} (e : ER K (r ++ [o]) (σ ++ [u]) G M H) : ER K r σ (fun j => if j < r.length then G j else []) M H := by
  have hl : r.length = σ.length := by simpa using e.len
  refine ⟨hl, fun i x m h => ?_, fun i h => ?_, fun i => ?_, fun i j hne b hb => ?_, fun i b hb => ?_, e.hot⟩
  · have hi := (List.getElem?_eq_some_iff.mp h).1
    obtain ⟨v, h1, h2⟩ := e.at_ i x m (by rw [List.getElem?_append_left hi]; exact h)
    exact ⟨v, by rwa [List.getElem?_append_left (by rw [← hl]; exact hi)] at h1, by simpa [hi] using h2⟩
  · by_cases hi : i < r.length
    · simp only [if_pos hi]
      exact e.emp i fun x m q => h x m (by rwa [List.getElem?_append_left hi] at q)
    · simp [hi]
  · by_cases hi : i < r.length
    · simpa [hi] using e.nd i
    · simp [hi]
  · by_cases hi : i < r.length
    · simp only [if_pos hi] at hb
      by_cases hj : j < r.length
      · simp only [if_pos hj]; exact e.dj i j hne b hb
      · simp [hj]
    · simp [hi] at hb
  · by_cases hi : i < r.length
    · simp only [if_pos hi] at hb; exact e.sub i b hb
    · simp [hi] at hb
theorem mCM_ok {n : Nat} {fn : Fn} {f : Ev → Ou Vl} {as : List Am} {Q : VK} (hn : as.length + 1 = n) (h : tI K cl W (mCM fn f as) σ H Q) : tOs K cl W (.e f :: as) σ H fun vs H1 => spY K cl true n fn vs H1 Q (WE W σ) := by
  obtain ⟨r, M, G, e, h⟩ := h
  show tI K cl W f σ H _
  refine ⟨r, M, G, e, ?_⟩
  simp only [mCM] at h
  cases hf : f r with
  | no => rw [hf] at h; exact h
  | ex c fs r1 => rw [hf] at h; exact h
  | ok xm r1 =>
    obtain ⟨x0, m0⟩ := xm
    rw [hf] at h
    simp only at h
    intro v0 H1 M1 G1 F1 p
    have v1 : Evo H M G H1 M1 G1 [] := ⟨p.ev.pres, p.ev.dom, p.ev.grow, p.ev.keep, p.ev.env, fun _ z => nomatch z⟩
    refine tOs_ok as p.er ?_
    cases ha : evA as r1 with
    | no => rw [ha] at h; exact h
    | ex c fs r2 => rw [ha] at h; exact fun d H2 M2 G2 q => h d H2 M2 G2 ⟨q.er, v1.trans e.hot q.ev, q.xd⟩
    | ok ys r2 =>
      rw [ha] at h
      simp only at h
      intro vs H2 M2 G2 e2 v2 a2
      cases hl : look r2 ys with
      | none => rw [hl] at h; exact h.elim
      | some xs =>
        rw [hl] at h
        simp only at h
        obtain ⟨rp2, hot2, _⟩ := p.rp.evo p.hot p.er v2
        have ee := e2.snoc rp2 p.nd hot2
        have hls : r2.length = σ.length := e2.len
        have va : ∀ {us : List V} {zs : List Ag}, AgL K M2 H2 σ us zs → AgL K M2 H2 (σ ++ [some v0]) us zs := by
          intro us zs q
          induction q with
          | nil => exact .nil
          | d c _ ih => exact .d c ih
          | v hv _ ih => exact .v (by rw [List.getElem?_append_left (List.getElem?_eq_some_iff.mp hv).1]; exact hv) ih
        have vv : Evo H M G H2 M2 (fun j => if j = r2.length then F1 else G2 j) [] := by
          have v3 := v1.trans e.hot v2
          exact ⟨v3.pres, v3.dom, v3.grow, v3.keep, fun i b hb => by
            by_cases q : i = r2.length
            · simp only [if_pos q] at hb; exact p.ev.res b hb
            · simp only [if_neg q] at hb; exact v3.env i b hb, fun _ z => nomatch z⟩
        have es : (r2 ++ [some (x0, m0)]).set r2.length none = r2 ++ [none] := by rw [List.set_append_right _ _ (Nat.le_refl _)]; simp
        have es2 : ∀ (q : Ev) (z : Vl), q.length = r2.length → (q ++ [none]).set r2.length (some z) = q ++ [some z] := fun q z hq => by rw [← hq, List.set_append_right _ _ (Nat.le_refl _)]; simp
        refine callI_core (i := r2.length) (x0 := x0) (m0 := m0) ee (by rw [← hn, List.length_cons, a2.len, evA_len as ha]) (by rw [hls, List.getElem?_append_right (Nat.le_refl _)]; simp) (va a2) (by rw [List.getElem?_append_right (Nat.le_refl _)]; simp) (by rw [es]; exact look_ext hl) ?_
        cases hfn : fn ((x0, m0) :: cold xs) with
        | no => rw [hfn] at h; exact h
        | rt xm z =>
          obtain ⟨x, m⟩ := xm
          rw [hfn] at h
          simp only at h ⊢
          intro v H3 M3 G3 F q
          rw [es, frz_ext hl] at q
          have q2 : PX K ((if (zfl (x, m) && zfl z) = true then r2 else frz ys r2) ++ [some z]) (σ ++ [some v0]) H2 M2 (fun j => if j = r2.length then F1 else G2 j) v x m H3 M3 G3 F := by
            by_cases hx : (zfl (x, m) && zfl z) = true
            · rw [if_pos hx] at q ⊢
              rwa [es2 _ _ rfl] at q
            · rw [if_neg hx] at q ⊢
              rwa [es2 _ _ (frz_len _ _)] at q
          have e5 := q2.er.unsnoc
          refine h v H3 M3 _ F ⟨e5, (vv.trans e.hot q2.ev).less fun i b hb => ⟨i, ?_⟩, q2.rp, q2.nd, fun b hb => ⟨(q2.hot b hb).1, fun i hi => ?_⟩⟩
          · by_cases y : i < (if (zfl (x, m) && zfl z) = true then r2 else frz ys r2).length
            · simp only [if_pos y] at hb; exact hb
            · rw [if_neg y] at hb; exact nomatch hb
          · by_cases y : i < (if (zfl (x, m) && zfl z) = true then r2 else frz ys r2).length
            · simp only [if_pos y] at hi; exact (q2.hot b hb).2 i hi
            · rw [if_neg y] at hi; exact nomatch hi
        | ex c fs z =>
          rw [hfn] at h
          simp only at h ⊢
          by_cases hx : (flatF fs && zfl z) = true
          · rw [if_pos hx] at h ⊢
            intro d H3 M3 G3 q
            rw [es, es2 _ _ rfl] at q
            refine h d H3 M3 _ ⟨q.er.unsnoc, (vv.trans e.hot q.ev).less fun i b hb => ⟨i, ?_⟩, q.xd⟩
            by_cases y : i < r2.length
            · simp only [if_pos y] at hb; exact hb
            · simp [if_neg y] at hb
          · rw [if_neg hx] at h
            exact h.elim
/-! ### the arguments in another order -/
def pick {α : Type} (p : List Nat) (d : α) (xs : List α) : List α := p.map fun i => xs.getD i d
theorem vals_pick {p : List Nat} : ∀ {vs : List V} {us : List Value}, Vals vs us → Vals (pick p .non vs) (pick p .none us) := by
  intro vs us h
  induction p with
  | nil => exact .nil
  | cons i p ih =>
    refine .cons ?_ ih
    show RelV (vs.getD i .non) (us.getD i .none)
    rw [List.getD_eq_getElem?_getD, List.getD_eq_getElem?_getD]
    cases e : vs[i]? with
    | none =>
      have : us[i]? = none := by
        rw [List.getElem?_eq_none_iff] at e ⊢
        rw [← h.length]; exact e
      rw [this]; rfl
    | some v =>
      obtain ⟨u, hu, ru⟩ := h.get e
      rw [hu]; exact ru
theorem spY_pick {n n' : Nat} {fn : Fn} {p : List Nat} {vs : List V} {Q : VK} {E : XK} (hp : p.length = n) (h : spY K cl false n' (fun xs => fn (pick p (.n, .c) xs)) vs H Q E) : spY K cl false n fn (pick p .non vs) H Q E := by
  obtain ⟨_, xs, M, G, e, ge, h⟩ := h
  have hG : G = fun _ => [] := funext fun i => ge i (fun z => nomatch z)
  subst hG
  have hl : xs.length = vs.length := by simpa using e.len
  have h : match fn (pick p (.n, .c) xs) with
    | .rt (x, m) z => ∀ v H' M' G' F, PX K (ioE false z) (ioS false vs) H M (fun _ => []) v x m H' M' G' F → Q v H'
    | .ex c fs z => ∀ d H' M' G', XX K (ioE false z) (ioS false vs) H M (fun _ => []) fs d H' M' G' → E (.ref (cl c)) d H'
    | .no => False := h
  refine ⟨by simp [pick, hp], pick p (.n, .c) xs, M, fun _ => [], ⟨by simp [pick], fun i x m hi => ?_, fun _ _ => rfl, fun _ => List.nodup_nil, fun _ _ _ _ z => (nomatch z), fun _ _ z => (nomatch z), e.hot⟩, fun _ _ => rfl, ?_⟩
  · simp only [pick, List.getElem?_map, List.map_map, Option.map_eq_some_iff] at hi ⊢
    obtain ⟨j, hj, hx⟩ := hi
    simp only [Function.comp, Option.some.injEq] at hx
    rw [List.getD_eq_getElem?_getD] at hx
    refine ⟨vs.getD j .non, ⟨j, hj, rfl⟩, ?_⟩
    rw [List.getD_eq_getElem?_getD]
    cases hxj : xs[j]? with
    | none =>
      rw [hxj] at hx
      simp only [Option.getD_none] at hx
      cases hx
      have : vs[j]? = none := by
        rw [List.getElem?_eq_none_iff] at hxj ⊢
        omega
      rw [this]
      exact ⟨.n, rfl⟩
    | some y =>
      rw [hxj] at hx
      simp only [Option.getD_some] at hx
      subst hx
      obtain ⟨v, hv, rp⟩ := e.at_ j x m (by simp [hxj])
      simp only [List.getElem?_map, Option.map_eq_some_iff, Option.some.injEq] at hv
      obtain ⟨w, hw, rfl⟩ := hv
      rw [hw]
      exact rp
  · cases hf : fn (pick p (.n, .c) xs) with
    | no => rw [hf] at h; exact h
    | ex c fs z =>
      simp only [hf] at h
      intro d H' M' G' q
      exact h d H' M' G' q
    | rt xm z =>
      obtain ⟨x, m⟩ := xm
      simp only [hf] at h
      intro v H' M' G' F q
      exact h v H' M' G' F q
end

section
variable {X : Cx} {cl : Str → Addr} {W : WX} {K : PySem.W.Frag} {io : Bool}
theorem je_callM {k : Nat} {f : Addr} {fd : FuncData} {ps : List Str} {n : Nat} {fn : Fn} {x : Str} {p pos : Pos} {e : Expr} {es : List Expr} {g : Ev → Ou Vl} {as : List Am} (F : FnOk X.prog X.w X.K X.mg X.base (L2.CX X.prog X.w) k f fd ps (spY X.K cl true n fn)) (hr : Room k X.A)
    (hm : X.mg x = some (.ref f)) (hk : PySem.W.keepIn X.K (.ref f) = true) (hb : Binds X.K fd ps []) (ha : JA X cl W (e :: es) (.e g :: as)) (hn : as.length + 1 = n := by rfl) (hg : Gl X x := by rfl) (hdb : (x == ("__debug__" : Str)) = false := by decide)
    (he : starEach (e :: es) X.env = (false, eval e X.env) :: starEach es X.env := by rfl) (hpl : (backTo pos (starEach es X.env)).any (·.1) = false := by rfl) : JE X cl W (.Call (.Name x p) (e :: es) [] pos) (mCM fn g as) := fun tk =>
  (pe_callS F hr hg hm hk hb (fun σ => passAt tk σ) (ha.pa tk) hdb he hpl).yimp fun _ _ _ q => mCM_ok hn q
/-! ### a call without arguments -/
theorem je_call0 {k : Nat} {f : Addr} {fd : FuncData} {ps : List Str} {fn : Fn} {x : Str} {p pos : Pos} (F : FnOk X.prog X.w X.K X.mg X.base (L2.CX X.prog X.w) k f fd ps (spY X.K cl false 0 fn)) (hr : Room k X.A)
    (hm : X.mg x = some (.ref f)) (hk : PySem.W.keepIn X.K (.ref f) = true) (hb : Binds X.K fd ps []) (hg : Gl X x := by rfl) (hdb : (x == ("__debug__" : Str)) = false := by decide) : JE X cl W (.Call (.Name x p) [] [] pos) (mC fn []) := fun tk => by
  refine ⟨fun pins s σ H Q I h => ?_⟩
  refine wpAny_Call_Name_kw (ld_glob I hg hm ?_ hdb)
  refine PySem.W.callWith_KW0 (h₀ := X.base) I.ok.mod.kin hk (by rfl) (wpAny_evalAll_nil ⟨I.kIn, ?_⟩) (by rfl)
  have := mC_ok (as := []) (n := 0) rfl h
  exact run_fnS F hr hb (passAt tk σ) I .nil this
/-! ### keywords -/
/-- how a call with keywords ks behind n positional values binds: p tells whose turn each parameter is -/
structure KB (K : PySem.W.Frag) (fd : FuncData) (ps : List Str) (n : Nat) (ks : List Str) (p : List Nat) : Prop where
  to : ∀ (s : Shared) (us ws : List Value), us.length = n → ws.length = ks.length → BindsTo s fd ⟨us, ks.zip ws⟩ (ps.zip (pick p .none (us ++ ws)))
inductive JK (X : Cx) (cl : Str → Addr) (W : WX) : List Keyword → List Am → Prop
  | nil : JK X cl W [] []
  | cons {nm : Option Str} {e : Expr} {kpos : Pos} {kws : List Keyword} {a : Am} {as : List Am} : JO X cl W e a → JK X cl W kws as → JK X cl W (⟨nm, e, kpos⟩ :: kws) (a :: as)
theorem JK.pk {kws : List Keyword} {as : List Am} (h : JK X cl W kws as) (tk : Takes X W) : PK X kws (tAs X.K cl W as) := by
  induction h with
  | nil => exact pk_nil
  | cons h1 _ ih => exact pk_cons (h1.pe tk) ih
theorem jk_c {nm : Option Str} {e : Expr} {kpos : Pos} {kws : List Keyword} {a : Am} {as : List Am} (h : JO X cl W e a) (q : JK X cl W kws as) : JK X cl W (⟨nm, e, kpos⟩ :: kws) (a :: as) := .cons h q
theorem jk_n : JK X cl W [] [] := .nil
theorem tOs_app {σ : L2.St} : ∀ {as bs : List Am} {H : Hp} {k : List V → Hp → Prop}, tOs K cl W (as ++ bs) σ H k → tOs K cl W as σ H fun vs H1 => vs.length = as.length ∧ tOs K cl W bs σ H1 fun ws H2 => k (vs ++ ws) H2
  | [], bs, H, k, h => ⟨rfl, h⟩
  | a :: as, bs, H, k, h => by
    have mono : ∀ {a : Am} {H : Hp} {Q Q' : V → Hp → Prop}, tO K cl W a σ H Q → (∀ v H, Q v H → Q' v H) → tO K cl W a σ H Q' := fun {a H Q Q'} h i => by
      cases a with
      | e f =>
        obtain ⟨r, M, G, e, h⟩ := h
        refine ⟨r, M, G, e, ?_⟩
        cases hf : f r with
        | no => rw [hf] at h; exact h
        | ex c fs r1 => rw [hf] at h; exact h
        | ok xm r1 =>
          obtain ⟨x, m⟩ := xm
          rw [hf] at h
          exact fun v H' M' G' F p => i _ _ (h v H' M' G' F p)
      | v j =>
        obtain ⟨v, hv, h⟩ := h
        exact ⟨v, hv, i _ _ h⟩
    have mono2 : ∀ {as : List Am} {H : Hp} {Q Q' : List V → Hp → Prop}, tOs K cl W as σ H Q → (∀ v H, Q v H → Q' v H) → tOs K cl W as σ H Q' := by
      intro as
      induction as with
      | nil => intro H Q Q' h i; exact i _ _ h
      | cons a as ih => intro H Q Q' h i; exact mono h fun v H h => ih h fun vs H h => i _ _ h
    exact mono h fun v H h => mono2 (tOs_app h) fun vs H h => ⟨by simp [h.1], h.2⟩
def mCK (fn : Fn) (p : List Nat) (as : List Am) : Ev → Ou Vl := mC (fun xs => fn (pick p (.n, .c) xs)) as
theorem run_fnK {k n : Nat} {f : Addr} {fd : FuncData} {ps ks : List Str} {p : List Nat} {fn : Fn} {pins : List (Addr × Obj)} {σ : L2.St} {H : Hp} {s : Shared} {Q : VK} {us ws : List Value} {vs zs : List V} (F : FnOk X.prog X.w X.K X.mg X.base (L2.CX X.prog X.w) k f fd ps (spY X.K cl false n fn)) (hr : Room k X.A) (hb : KB X.K fd ps us.length ks p) (tk : Takes X W) (hp : p.length = n) (hl : ws.length = ks.length)
    (I : Inv X pins σ H s) (r : Vals vs us) (rz : Vals zs ws) (h : spY X.K cl false (vs ++ zs).length (fun xs => fn (pick p (.n, .c) xs)) (vs ++ zs) H Q (WE W σ)) : wpAny (model X.prog X.w) X.A (call (.ref f) us (ks.zip ws)) (EP X pins σ Q) X.xe s := by
  have r2 := vals_pick (p := p) (r.append rz)
  have h2 := spY_pick (fn := fn) hp h
  refine wpAny_call (codeAny_mono (F.run X.A X.stack s H ⟨us, ks.zip ws⟩ _ _ Q (WE W σ) hr I.env0 (hb.to s us ws rfl hl) r2 h2) fun r s' hq => ?_)
  cases r with
  | error e => exact passAt tk σ pins H s e s' I hq
  | ok fl =>
    cases fl with
    | ret u => exact I.after hq
    | next => exact False.elim hq
    | brk => exact False.elim hq
    | cont => exact False.elim hq
theorem spY_len {n : Nat} {fn : Fn} {vs : List V} {H : Hp} {Q : VK} {E : XK} {b : Bool} (h : spY K cl b n fn vs H Q E) : spY K cl b vs.length fn vs H Q E := ⟨rfl, h.2⟩
theorem je_callK0 {k n : Nat} {f : Addr} {fd : FuncData} {ps ks : List Str} {p : List Nat} {fn : Fn} {x : Str} {np pos : Pos} {kws : List Keyword} {as : List Am} (F : FnOk X.prog X.w X.K X.mg X.base (L2.CX X.prog X.w) k f fd ps (spY X.K cl false n fn)) (hr : Room k X.A)
    (hm : X.mg x = some (.ref f)) (hk : PySem.W.keepIn X.K (.ref f) = true) (hb : KB X.K fd ps 0 ks p) (ha : JK X cl W kws as) (hks : (backToKw pos (keywordEach kws X.env)).filterMap (·.1) = ks := by rfl) (hl : as.length = ks.length := by rfl) (hp : p.length = n := by rfl) (hg : Gl X x := by rfl) (hdb : (x == ("__debug__" : Str)) = false := by decide)
    (hall : (backToKw pos (keywordEach kws X.env)).all (·.1.isSome) = true := by rfl) (hpl : ((backTo pos (starEach [] X.env)).any (·.1) || (backToKw pos (keywordEach kws X.env)).any (·.1.isNone)) = false := by rfl) :
    JE X cl W (.Call (.Name x np) [] kws pos) (mCK fn p as) := fun tk => by
  refine ⟨fun pins s σ H Q I h => ?_⟩
  refine wpAny_Call_Name_kw (ld_glob I hg hm ?_ hdb)
  have h2 := tOs_app (as := as) (bs := []) (by rw [List.append_nil]; exact mC_ok (as := as) rfl h)
  refine PySem.W.callWith_KW0 (h₀ := X.base) I.ok.mod.kin hk hall (thn ((ha.pk tk).run pos pins s σ H _ I h2) fun ws s2 ⟨zs, H2, I2, rz, q2⟩ => ⟨I2.kIn, ?_⟩) hpl
  rw [hks]
  have hz : ws.length = ks.length := by rw [← rz.length, q2.1, hl]
  have q3 : spY X.K cl false as.length (fun xs => fn (pick p (.n, .c) xs)) (zs ++ []) H2 Q (WE W σ) := q2.2
  rw [List.append_nil] at q3
  exact run_fnK (us := []) (vs := []) F hr hb tk hp hz I2 .nil rz (spY_len q3)
theorem je_callK {k n m : Nat} {f : Addr} {fd : FuncData} {ps ks : List Str} {p : List Nat} {fn : Fn} {x : Str} {np pos : Pos} {e : Expr} {es : List Expr} {kws : List Keyword} {as bs : List Am} (F : FnOk X.prog X.w X.K X.mg X.base (L2.CX X.prog X.w) k f fd ps (spY X.K cl false n fn)) (hr : Room k X.A)
    (hm : X.mg x = some (.ref f)) (hk : PySem.W.keepIn X.K (.ref f) = true) (hb : KB X.K fd ps m ks p) (hpa : JA X cl W (e :: es) as) (ha : JK X cl W kws bs) (hml : as.length = m := by rfl) (hks : (backToKw pos (keywordEach kws X.env)).filterMap (·.1) = ks := by rfl) (hl : bs.length = ks.length := by rfl) (hp : p.length = n := by rfl) (hg : Gl X x := by rfl) (hdb : (x == ("__debug__" : Str)) = false := by decide)
    (hall : (backToKw pos (keywordEach kws X.env)).all (·.1.isSome) = true := by rfl) (he : starEach (e :: es) X.env = (false, eval e X.env) :: starEach es X.env := by rfl) (hpl : ((backTo pos (starEach (e :: es) X.env)).any (·.1) || (backToKw pos (keywordEach kws X.env)).any (·.1.isNone)) = false := by rfl) :
    JE X cl W (.Call (.Name x np) (e :: es) kws pos) (mCK fn p (as ++ bs)) := fun tk => by
  refine ⟨fun pins s σ H Q I h => ?_⟩
  refine wpAny_Call_Name_kw (ld_glob I hg hm ?_ hdb)
  have h2 := tOs_app (as := as) (bs := bs) (mC_ok (as := as ++ bs) rfl h)
  refine PySem.W.callWith_KW (h₀ := X.base) I.ok.mod.kin hk hall (thn ((hpa.pa tk).run pos pins s σ H _ I h2) fun us s1 ⟨vs, H1, I1, r, q1⟩ => ?_) hpl he
  have h3 := tOs_app (as := bs) (bs := []) (by rw [List.append_nil]; exact q1.2)
  refine thn ((ha.pk tk).run pos pins s1 σ H1 _ I1 h3) fun ws s2 ⟨zs, H2, I2, rz, q2⟩ => ⟨I2.kIn, ?_⟩
  rw [hks]
  have hz : ws.length = ks.length := by rw [← rz.length, q2.1, hl]
  have hu : us.length = m := by rw [← r.length, q1.1, hml]
  have q3 : spY X.K cl false (as ++ bs).length (fun xs => fn (pick p (.n, .c) xs)) (vs ++ (zs ++ [])) H2 Q (WE W σ) := q2.2
  rw [List.append_nil] at q3
  have hb' : KB X.K fd ps us.length ks p := by rw [hu]; exact hb
  exact run_fnK (us := us) F hr hb' tk hp hz I2 r rz (spY_len q3)
/-! ### a, b = x, y -/
theorem js_par2 {i j : Nat} {x y : Str} {a b : Expr} {f g : Ev → Ou Vl} {px py pt pos : Pos} {kt k2 pt2} (hc : X.calm = true) (hN : X.N.Nodup) (hi : X.N[i]? = some x) (hj : X.N[j]? = some y) (hij : i ≠ j)
    (hx : X.env.scope.names.lookup x = some .local) (hy : X.env.scope.names.lookup y = some .local) (hio : io = true → 0 ∉ [i, j]) (ha : JE X cl W a f) (hb : JE X cl W b g) (hw : swappedStores [.Tuple [.Name x px, .Name y py] kt pt] (.Tuple [a, b] k2 pt2) X.env = pure (some [x, y]))
    (hs1 : starEach [a, b] X.env = (false, eval a X.env) :: starEach [b] X.env := by rfl) (hs2 : starEach [b] X.env = (false, eval b X.env) :: starEach [] X.env := by rfl)
    (hs : swapsWithSole [.Tuple [.Name x px, .Name y py] kt pt] (.Tuple [a, b] k2 pt2) pos.line X.env = pure false := by rfl) : JS X cl W io (.Assign [.Tuple [.Name x px, .Name y py] kt pt] (.Tuple [a, b] k2 pt2) pos) (sPar [i, j] [f, g]) := fun tk =>
  (ps_par hc hN hi hj hij hx hy ((ja_c (jo_e ha) (ja_c (jo_e hb) ja_n hs2) hs1).pa tk) hw hs).yimp fun D σ H q => by
    have := par_go (is := [i, j]) (fs := [f, g]) hio q
    have mono2 : ∀ {as : List Am} {H : Hp} {Q Q' : List V → Hp → Prop}, tOs X.K cl W as σ H Q → (∀ v H, Q v H → Q' v H) → tOs X.K cl W as σ H Q' := tOs_mono
    refine mono2 this fun vs H1 ⟨h1, h2, _⟩ => ?_
    match vs, h1 with
    | [v, w], _ => exact ⟨v, w, rfl, h2⟩
where tOs_mono {K : PySem.W.Frag} {cl : Str → Addr} {W : WX} {σ : L2.St} : ∀ {as : List Am} {H : Hp} {Q Q' : List V → Hp → Prop}, tOs K cl W as σ H Q → (∀ v H, Q v H → Q' v H) → tOs K cl W as σ H Q'
  | [], _, _, _, h, i => i _ _ h
  | .v j :: as, H, Q, Q', ⟨v, hv, h⟩, i => ⟨v, hv, tOs_mono (as := as) h fun vs H h => i _ _ h⟩
  | .e f :: as, H, Q, Q', h, i => by
    obtain ⟨r, M, G, e, h⟩ := h
    refine ⟨r, M, G, e, ?_⟩
    cases hf : f r with
    | no => rw [hf] at h; exact h
    | ex c fs r1 => rw [hf] at h; exact h
    | ok xm r1 =>
      obtain ⟨x, m⟩ := xm
      rw [hf] at h
      exact fun v H' M' G' F p => tOs_mono (as := as) (h v H' M' G' F p) fun vs H h => i _ _ h
theorem js_par3 {i j l : Nat} {x y z : Str} {a b c : Expr} {f g h : Ev → Ou Vl} {px py pz pt pos : Pos} {kt k2 pt2} (hc : X.calm = true) (hN : X.N.Nodup) (hi : X.N[i]? = some x) (hj : X.N[j]? = some y) (hl : X.N[l]? = some z) (hij : i ≠ j) (hil : i ≠ l) (hjl : j ≠ l)
    (hx : X.env.scope.names.lookup x = some .local) (hy : X.env.scope.names.lookup y = some .local) (hz : X.env.scope.names.lookup z = some .local) (hio : io = true → 0 ∉ [i, j, l]) (ha : JE X cl W a f) (hb : JE X cl W b g) (hcc : JE X cl W c h)
    (hw : swappedStores [.Tuple [.Name x px, .Name y py, .Name z pz] kt pt] (.Tuple [a, b, c] k2 pt2) X.env = pure (some [x, y, z]))
    (hs1 : starEach [a, b, c] X.env = (false, eval a X.env) :: starEach [b, c] X.env := by rfl) (hs2 : starEach [b, c] X.env = (false, eval b X.env) :: starEach [c] X.env := by rfl) (hs3 : starEach [c] X.env = (false, eval c X.env) :: starEach [] X.env := by rfl)
    (hs : swapsWithSole [.Tuple [.Name x px, .Name y py, .Name z pz] kt pt] (.Tuple [a, b, c] k2 pt2) pos.line X.env = pure false := by rfl) : JS X cl W io (.Assign [.Tuple [.Name x px, .Name y py, .Name z pz] kt pt] (.Tuple [a, b, c] k2 pt2) pos) (sPar [i, j, l] [f, g, h]) := fun tk =>
  (ps_par3 hc hN hi hj hl hij hil hjl hx hy hz ((ja_c (jo_e ha) (ja_c (jo_e hb) (ja_c (jo_e hcc) ja_n hs3) hs2) hs1).pa tk) hw hs).yimp fun D σ H q => by
    have := par_go (is := [i, j, l]) (fs := [f, g, h]) hio q
    refine js_par2.tOs_mono this fun vs H1 ⟨h1, h2, _⟩ => ?_
    match vs, h1 with
    | [u, v, w], _ => exact ⟨u, v, w, rfl, h2⟩
end
end Y
/-! Y, part N: a tuple once, a tuple no times. -/
namespace Y
open PySem L2 PyProof.Rows
theorem tup_once (l : Addr) (items : Array Value) (n : Nat) (dd : Option Addr) (sl : Array (Option Value)) (u : Tok) :
    Meets (Builtin.«tuple.__mul__» ⟨[.ref l, .int 1 u], []⟩) (fun _ R s => s.heap.get? l = some { cls := .type "tuple", dict := dd, data := .seq items n, slots := sl } ∧ R (.ok (.ret (Value.ref l))) s) :=
  .of_wp fun prog w A R s h => by
    obtain ⟨hp, g, d, tk, os⟩ := s
    obtain ⟨hl, h⟩ := h
    have f1 := AutoSeq1.idx_int
    have c1 : (items.isEmpty || (1 : Int) == 1) = true := by simp
    wp_walk using wpAny_loadPart' hl
    exact ⟨_, rfl, h⟩
theorem tup_none (l : Addr) (items : Array Value) (n : Nat) (dd : Option Addr) (sl : Array (Option Value)) (x : Int) (u : Tok) (c0 : (decide (x < -(2 ^ 63)) || decide (x ≥ 2 ^ 63)) = false) (c1 : (items.isEmpty || x == 1) = false) (c2 : (decide (x ≤ 0) || items.isEmpty) = true) :
    Meets (Builtin.«tuple.__mul__» ⟨[.ref l, .int x u], []⟩) (fun _ R s => s.heap.get? l = some { cls := .type "tuple", dict := dd, data := .seq items n, slots := sl } ∧
      R (.ok (.ret (Value.ref s.heap.objs.size))) { s with heap := s.heap.push { cls := Value.type "tuple", data := Data.seq #[] } }) :=
  .of_wp fun prog w A R s h => by
    obtain ⟨hp, g, d, tk, os⟩ := s
    obtain ⟨hl, h⟩ := h
    have f1 := AutoSeq1.idx_int
    wp_walk using wpAny_loadPart' hl
    repeat (first
      | (refine wpAny_ite_false (decide_eq_false (by rw [c0]; exact Bool.false_ne_true)) ?_; wp_walk using wpAny_loadPart' hl)
      | (refine wpAny_ite_false (decide_eq_false (by rw [c1]; exact Bool.false_ne_true)) ?_; wp_walk using wpAny_loadPart' hl)
      | (refine wpAny_ite_true (decide_eq_true c2) ?_; wp_walk using wpAny_loadPart' hl))
    exact ⟨_, rfl, h⟩
def rRep1 (K : PySem.W.Frag) : R2 := fun x y H Q => ∃ l xs, x = .ref l ∧ y = .int 1 ∧ SqT K H l xs ∧ Q (.ref l) H
def rRep0 (K : PySem.W.Frag) : R2 := fun x y H Q => ∃ l k xs, x = .ref l ∧ y = .int k ∧ SqT K H l xs ∧ xs ≠ [] ∧ k ≤ 0 ∧ -1000000 ≤ k ∧ ∀ p, H p = none → Q (.ref p) (upd H p (.tup []))
section
variable {X : Cx}
theorem op_rep1 : OpR X (binaryOp .Mult) (rRep1 X.K) := by
  intro pins s σ H x y v u Q I rx ry h
  obtain ⟨l, xs, rfl, rfl, hT, q⟩ := h
  cases rx
  obtain ⟨t, rfl⟩ := ry
  obtain ⟨its, r, ⟨⟨cls, dd, data, sl⟩, ho, hc, n, hd⟩, hs⟩ := I.tuple hT
  simp only at hc hd
  subst hc hd
  exact wpAny_binaryOp_repeat_ref (T := "tuple") (U := "int") (by decide) ⟨_, ho, rfl⟩ (fun s' => typeIs_int s' 1 t) noFill_tuple_mul F.fills_int_mul F.slot_int_rmul repeat_tuple F.slot_int_index.lookup
    (call_meets F.slot_int_rmul (typeIs_int s 1 t) F.entry_int_rmul (F.args_int_rmul_2 _ _) (int_rmul_tuple 1 t l its.toArray n dd sl)
      ⟨ho, rfl, ⟨_, ho, rfl⟩, call_meets F.slot_tuple_mul ⟨_, ho, rfl⟩ F.entry_tuple_mul (F.args_tuple_mul_2 _ _) (tup_once l its.toArray n dd sl t) ⟨ho, .ref l, H, I, rfl, q⟩⟩)
theorem op_rep0 : OpR X (binaryOp .Mult) (rRep0 X.K) := by
  intro pins s σ H x y v u Q I rx ry h
  obtain ⟨l, k, xs, rfl, rfl, hT, hne, h1, h2, q⟩ := h
  cases rx
  obtain ⟨t, rfl⟩ := ry
  obtain ⟨its, r, ⟨⟨cls, dd, data, sl⟩, ho, hc, n, hd⟩, hs⟩ := I.tuple hT
  simp only at hc hd
  subst hc hd
  have hle : its.length = xs.length := r.length.symm
  have hi : its.toArray.isEmpty = false := by
    cases its with
    | nil => exact absurd (List.eq_nil_of_length_eq_zero hle.symm) hne
    | cons a b => rfl
  have c0 : (decide (k < -(2 ^ 63)) || decide (k ≥ 2 ^ 63)) = false := by
    rw [Bool.or_eq_false_iff]
    exact ⟨decide_eq_false (by omega), decide_eq_false (by omega)⟩
  have c1 : (its.toArray.isEmpty || k == 1) = false := by
    rw [hi, Bool.false_or]
    exact beq_eq_false_iff_ne.mpr (by omega)
  have c2 : (decide (k ≤ 0) || its.toArray.isEmpty) = true := by
    rw [decide_eq_true h1, Bool.true_or]
  refine wpAny_binaryOp_repeat_ref (T := "tuple") (U := "int") (by decide) ⟨_, ho, rfl⟩ (fun s' => typeIs_int s' k t) noFill_tuple_mul F.fills_int_mul F.slot_int_rmul repeat_tuple F.slot_int_index.lookup
    (call_meets F.slot_int_rmul (typeIs_int s k t) F.entry_int_rmul (F.args_int_rmul_2 _ _) (int_rmul_tuple k t l its.toArray n dd sl)
      ⟨ho, rfl, ⟨_, ho, rfl⟩, call_meets F.slot_tuple_mul ⟨_, ho, rfl⟩ F.entry_tuple_mul (F.args_tuple_mul_2 _ _) (tup_none l its.toArray n dd sl k t c0 c1 c2) ⟨ho, ?_⟩⟩)
  refine ⟨.ref s.heap.objs.size, _, I.laid (t' := s.toks) (o := .tup []) (fun b ob q => Heap.get?_push_of_some _ q) (Nat.le_refl _) ?_, rfl, q _ (I.hok.fresh (Nat.le_refl _))⟩
  exact ⟨Nat.zero_le _, [], .nil, IsTup.new _ _⟩
end
end Y
/-! Y, part V: isinstance, in, chains, products, turned slices. -/
namespace Y
open PySem L2 PyProof.Rows
section
variable {X : Cx} {cl : Str → Addr} {W : WX} {K : PySem.W.Frag} {io : Bool} {M M' : Addr → Prop} {H H' : Hp}
/-! ### isinstance -/
def tyN : Dt → String
  | .n => "NoneType" | .b _ => "bool" | .i _ => "int" | .s _ => "str" | .t _ => "tuple" | .l _ => "list" | .z _ => "list" | .m _ _ => "dict" | .o _ _ _ => "object"
def isT (T : String) (x : Dt) : Bool := tyN x == T || (T == "int" && tyN x == "bool")
/-- no dict, no object -/
def isP : Dt → Bool
  | .m _ _ => false
  | .o _ _ _ => false
  | _ => true
theorem Co.tyx {v : V} {x : Dt} (c : Co K M H v x) (hp : isP x = true) : TyX K H v (.type (tyN x)) := by
  cases c with
  | m _ _ => cases hp
  | o _ _ _ => cases hp
  | n => exact .base .non
  | b x => exact .base (.bl x)
  | i x => exact .base (.int x)
  | s x => exact .base (.str x)
  | t h q =>
    rcases h with h | ⟨o, its, n, h1, h2, _⟩
    · rcases h with h | ⟨o, h⟩
      · exact .base (.tup h)
      · exact .fTuple h
    · exact .kTuple h1 h2
  | l h _ q => exact .base (.lst h)
  | z h q =>
    rcases h with ⟨o, h⟩ | ⟨o, its, n, h1, h2, _⟩
    · exact .base (.frz h)
    · exact .kList h1 h2
theorem kitT {K : PySem.W.Frag} {T : String} (hT : T ∈ ["list", "tuple", "str", "bool", "int"]) {v : V} {x : Dt} (c : Co K M H v x) (hp : isP x = true) : PySem.W.kitOne K (.type (tyN x)) (.type T) = some (isT T x) := by
  have tab : ∀ ty ∈ ["NoneType", "bool", "int", "str", "tuple", "list"], ∀ T ∈ ["list", "tuple", "str", "bool", "int"], kitB ty T = some (ty == T || (T == "int" && ty == "bool")) := by decide +kernel
  refine kit_ty (tab (tyN x) ?_ T hT)
  cases c <;> first | (simp [tyN]; done) | cases hp
def fIsi (Ts : List String) : List Dt → Option Vl
  | [x] => if isP x then some (.b (Ts.any (isT · x)), .c) else none
  | _ => none
def rIsi1 (K : PySem.W.Frag) (T : String) : List V → Hp → VK → Prop
  | [x], H, Q => rIsi K [x, .ty T] H Q
  | _, _, _ => False
theorem pr_isi1 {T : String} (hT : T ∈ ["list", "tuple", "str", "bool", "int"]) : Pr K (rIsi1 K T) (fIsi [T]) := fun M H vs xs x m Q ht c hf k => by
  unfold fIsi at hf
  split at hf
  · rename_i d
    split at hf
    · rename_i hp
      cases hf
      obtain ⟨v, rfl, c1⟩ := c.one
      exact ⟨v, .ty T, _, _, _, rfl, .ty T, c1.tyx hp, kitT hT c1 hp, by simpa using k _ _ _ (mk_c ht (.b _))⟩
    · cases hf
  · cases hf
def rIsi2 (K : PySem.W.Frag) (T T' : String) : List V → Hp → VK → Prop
  | [x], H, Q => ∀ p, H p = none → rIsiT K [x, .ref p] (upd H p (.tup [.ty T, .ty T'])) Q
  | _, _, _ => False
theorem pr_isi2 {T T' : String} (hT : T ∈ ["list", "tuple", "str", "bool", "int"]) (hT' : T' ∈ ["list", "tuple", "str", "bool", "int"]) : Pr K (rIsi2 K T T') (fIsi [T, T']) := fun M H vs xs x m Q ht c hf k => by
  unfold fIsi at hf
  split at hf
  · rename_i d
    split at hf
    · rename_i hpp
      cases hf
      obtain ⟨v, rfl, c1⟩ := c.one
      intro p hp
      have c2 := c1.fm (fm_new0 (o := .tup [.ty T, .ty T']) ht hp)
      refine ⟨v, p, [.ty T, .ty T'], _, [.type T, .type T'], (isT T d || isT T' d), rfl, upd_same, .cons (.ty T) (.cons (.ty T') .nil), c2.tyx hpp, kitAny_cons (kitT hT c2 hpp) (fun e => ?_) (fun e => by simp [e]), ?_⟩
      · rw [e, Bool.false_or]
        exact kitAny_cons (kitT hT' c2 hpp) (fun e2 => by rw [e2]; exact kitAny_nil) (fun e2 => e2)
      · have mk : Mk K H M (.bl (isT T d || isT T' d)) (.b (isT T d || isT T' d)) .c (upd H p (.tup [.ty T, .ty T'])) [] := ⟨same_new hp, fun _ z => (nomatch z), List.nodup_nil, .b _, rfl⟩
        have := k _ _ _ (by simpa using mk)
        simpa using this
    · cases hf
  · cases hf
theorem je_isi1 {T : String} {Tn : Str} {e : Expr} {A : Am} {p p2 pos : Pos} (hT : T ∈ ["list", "tuple", "str", "bool", "int"]) (hg : Gl X "isinstance") (hm : X.mg "isinstance" = none) (hg2 : Gl X Tn) (hm2 : X.mg Tn = none) (hv2 : bootBuiltins Tn = some (.type T)) (he : JO X cl W e A) (hn : Tn ≠ "__name__" := by decide) (hd : (Tn == ("__debug__" : Str)) = false := by decide)
    (hs : starEach [e, .Name Tn p2] X.env = (false, eval e X.env) :: starEach [.Name Tn p2] X.env := by rfl) (hs2 : starEach [.Name Tn p2] X.env = (false, eval (.Name Tn p2) X.env) :: starEach [] X.env := by rfl) (hpl : (backTo pos (starEach [.Name Tn p2] X.env)).any (·.1) = false := by rfl) :
    JE X cl W (.Call (.Name "isinstance" p) [e, .Name Tn p2] [] pos) (mP (fIsi [T]) [A]) := fun tk =>
  (pe_callB call_isi hg hm (by rfl) (pa_cons (he.pe tk) (pa_cons (pe_bltn hg2 hm2 hv2 (show RelV (.ty T) (.type T) from rfl) hn hd) pa_nil hs2) hs) (by decide) (by decide) hs hpl).yimp fun σ H Q q => by
    have := mP_ok (pr_isi1 hT) q
    cases A <;> exact this
theorem je_isi2 {T T' : String} {Tn Tn' : Str} {e : Expr} {A : Am} {k : Nat} {p p2 p3 tp pos : Pos} (hT : T ∈ ["list", "tuple", "str", "bool", "int"]) (hT' : T' ∈ ["list", "tuple", "str", "bool", "int"]) (hg : Gl X "isinstance") (hm : X.mg "isinstance" = none) (hg2 : Gl X Tn) (hm2 : X.mg Tn = none) (hv2 : bootBuiltins Tn = some (.type T)) (hg3 : Gl X Tn') (hm3 : X.mg Tn' = none) (hv3 : bootBuiltins Tn' = some (.type T')) (he : JO X cl W e A)
    (hn : Tn ≠ "__name__" := by decide) (hd : (Tn == ("__debug__" : Str)) = false := by decide) (hn' : Tn' ≠ "__name__" := by decide) (hd' : (Tn' == ("__debug__" : Str)) = false := by decide)
    (hs : starEach [e, .Tuple [.Name Tn p2, .Name Tn' p3] k tp] X.env = (false, eval e X.env) :: starEach [.Tuple [.Name Tn p2, .Name Tn' p3] k tp] X.env := by rfl) (hs2 : starEach [.Tuple [.Name Tn p2, .Name Tn' p3] k tp] X.env = (false, eval (.Tuple [.Name Tn p2, .Name Tn' p3] k tp) X.env) :: starEach [] X.env := by rfl)
    (hpl : (backTo pos (starEach [.Tuple [.Name Tn p2, .Name Tn' p3] k tp] X.env)).any (·.1) = false := by rfl) (hs3 : starEach [.Name Tn p2, .Name Tn' p3] X.env = (false, eval (.Name Tn p2) X.env) :: starEach [.Name Tn' p3] X.env := by rfl) (hs4 : starEach [.Name Tn' p3] X.env = (false, eval (.Name Tn' p3) X.env) :: starEach [] X.env := by rfl) :
    JE X cl W (.Call (.Name "isinstance" p) [e, .Tuple [.Name Tn p2, .Name Tn' p3] k tp] [] pos) (mP (fIsi [T, T']) [A]) := fun tk =>
  (pe_callB call_isiT hg hm (by rfl) (pa_cons (he.pe tk) (pa_cons (pe_tup (pa_cons (pe_bltn hg2 hm2 hv2 (show RelV (.ty T) (.type T) from rfl) hn hd) (pa_cons (pe_bltn hg3 hm3 hv3 (show RelV (.ty T') (.type T') from rfl) hn' hd') pa_nil hs4) hs3)) pa_nil hs2) hs) (by decide) (by decide) hs hpl).yimp fun σ H Q q => by
    have := mP_ok (pr_isi2 hT hT') q
    have mono : ∀ {Q Q' : V → Hp → Prop}, tO X.K cl W A σ H Q → (∀ v H, Q v H → Q' v H) → tO X.K cl W A σ H Q' := fun {Q Q'} h i => js_par2.tOs_mono (as := [A]) (Q := fun vs H => match vs with | [v] => Q v H | _ => True) (Q' := fun vs H => match vs with | [v] => Q' v H | _ => True) h fun vs H h => by
      match vs, h with
      | [v], h => exact i v H h
      | [], _ => trivial
      | _ :: _ :: _, _ => trivial
    exact mono this fun v H1 h => ⟨by show 2 ≤ sizeLine; decide, h⟩
/-! ### in -/
def inA (neg : Bool) (d : PyData) (ds : List PyData) : Bool := if neg then !(ds.any fun z => PyData.eqv z d) else ds.any fun z => PyData.eqv z d
def rInA (K : PySem.W.Frag) (neg : Bool) : R2 := fun x y H Q => ∃ d ds, Dp K H x d ∧ (Dp K H y (.list ds) ∨ Dp K H y (.tuple ds)) ∧ SeqAt.shaped d = true ∧ SeqAt.shaped (.list ds) = true ∧ SeqAt.shaped (.tuple ds) = true ∧ Q (.bl (inA neg d ds)) H
theorem or_in (hu : X.A.units + 65 < cLine) : OpR X (compareOp .In) (rInA X.K false) := by
  intro pins s σ H x y v u Q I rx ry h
  obtain ⟨d, ds, hd, he, sd, se, st, q⟩ := h
  obtain ⟨as, r1⟩ := Dp.reads I d x v hd rx
  rcases he with he | he
  · obtain ⟨bs, r2⟩ := Dp.reads I (.list ds) y u he ry
    exact SeqAt.in_list_reads r2 r1 (SeqAt.canLay_of_shaped se) (SeqAt.canLay_of_shaped sd) (room_in_shaped sd hu) ⟨.bl _, H, I, rfl, q⟩
  · obtain ⟨bs, r2⟩ := Dp.reads I (.tuple ds) y u he ry
    exact SeqAt.in_tuple_reads r2 r1 (SeqAt.canLay_of_shaped st) (SeqAt.canLay_of_shaped sd) (room_in_shaped sd hu) ⟨.bl _, H, I, rfl, q⟩
theorem or_nin (hu : X.A.units + 65 < cLine) : OpR X (compareOp .NotIn) (rInA X.K true) := by
  intro pins s σ H x y v u Q I rx ry h
  obtain ⟨d, ds, hd, he, sd, se, st, q⟩ := h
  obtain ⟨as, r1⟩ := Dp.reads I d x v hd rx
  rcases he with he | he
  · obtain ⟨bs, r2⟩ := Dp.reads I (.list ds) y u he ry
    exact SeqAt.notIn_list_reads r2 r1 (SeqAt.canLay_of_shaped se) (SeqAt.canLay_of_shaped sd) (room_in_shaped sd hu) ⟨.bl _, H, I, rfl, q⟩
  · obtain ⟨bs, r2⟩ := Dp.reads I (.tuple ds) y u he ry
    exact SeqAt.notIn_tuple_reads r2 r1 (SeqAt.canLay_of_shaped st) (SeqAt.canLay_of_shaped sd) (room_in_shaped sd hu) ⟨.bl _, H, I, rfl, q⟩
def inL (neg : Bool) (x : Dt) (ys : List Dt) : Bool := if neg then !(ys.any fun z => eqD z x) else ys.any fun z => eqD z x
def fInA (neg : Bool) : List Dt → Option Vl
  | [x, .l ys] => if shp x && shp (.l ys) && shp (.t ys) then some (.b (inL neg x ys), .c) else none
  | [x, .t ys] => if shp x && shp (.l ys) && shp (.t ys) then some (.b (inL neg x ys), .c) else none
  | [x, .z ys] => if shp x && shp (.l ys) && shp (.t ys) then some (.b (inL neg x ys), .c) else none
  | _ => none
theorem inA_eq {neg : Bool} {x : Dt} {ys : List Dt} : inA neg (toP x) (toPL ys) = inL neg x ys := by
  unfold inA inL
  rw [toPL_map, List.any_map]; rfl
theorem pr_in {neg : Bool} : Pr K (ap2 (rInA K neg)) (fInA neg) := fun M H vs xs x m Q ht c hf k => by
  unfold fInA at hf
  split at hf
  · split at hf
    · rename_i h
      cases hf
      simp only [Bool.and_eq_true] at h
      obtain ⟨v, w, rfl, c1, c2⟩ := c.two
      exact ⟨_, _, c1.dp (nob_shp h.1.1), .inl (c2.dp (nob_shp h.1.2)), h.1.1, h.1.2, h.2, by rw [inA_eq]; exact k _ _ _ (mk_c ht (.b _))⟩
    · cases hf
  · split at hf
    · rename_i h
      cases hf
      simp only [Bool.and_eq_true] at h
      obtain ⟨v, w, rfl, c1, c2⟩ := c.two
      exact ⟨_, _, c1.dp (nob_shp h.1.1), .inr (c2.dp (nob_shp h.2)), h.1.1, h.1.2, h.2, by rw [inA_eq]; exact k _ _ _ (mk_c ht (.b _))⟩
    · cases hf
  · split at hf
    · rename_i h
      cases hf
      simp only [Bool.and_eq_true] at h
      obtain ⟨v, w, rfl, c1, c2⟩ := c.two
      exact ⟨_, _, c1.dp (nob_shp h.1.1), .inl (c2.dp (nob_shp h.1.2)), h.1.1, h.1.2, h.2, by rw [inA_eq]; exact k _ _ _ (mk_c ht (.b _))⟩
    · cases hf
  · cases hf
/-! ### products -/
def fRepT : List Dt → Option Vl
  | [.t xs, .i k] => if xs ≠ [] ∧ -1000000 ≤ k ∧ k ≤ 1000 ∧ xs.length ≤ 1000 then some (.t (List.replicate k.toNat xs).flatten, .c) else none
  | _ => none
def rRepN (K : PySem.W.Frag) : R2 := fun x y H Q => rRep1 K x y H Q ∨ (rRep0 K x y H Q ∨ rRepT K x y H Q)
theorem pr_repT : Pr K (ap2 (rRepN K)) fRepT := fun M H vs xs x m Q ht c hf k => by
  unfold fRepT at hf
  split at hf
  · rename_i ys n
    split at hf
    · rename_i h
      cases hf
      obtain ⟨v, w, rfl, c1, c2⟩ := c.two
      have c0 := c1
      obtain ⟨a, us, rfl, h1, q1⟩ := c1.tup
      have hw := c2.int
      have hne : us ≠ [] := fun z => h.1 (by subst z; exact q1.nilD)
      subst hw
      by_cases e1 : n = 1
      · subst e1
        have e : (List.replicate (1 : Int).toNat ys).flatten = ys := by simp
        rw [e] at k
        exact .inl ⟨a, us, rfl, rfl, h1, k _ _ _ (mk_c ht c0)⟩
      · by_cases e0 : n ≤ 0
        · have e : (List.replicate n.toNat ys).flatten = [] := by
            have : n.toNat = 0 := by omega
            simp [this]
          rw [e] at k
          exact .inr (.inl ⟨a, n, us, rfl, rfl, h1, hne, e0, h.2.1, fun p hp => k _ _ _ (mk_tup ht hp .nil)⟩)
        · exact .inr (.inr ⟨a, n, us, rfl, rfl, h1, hne, by omega, h.2.2.1, by rw [q1.len]; exact h.2.2.2, fun p hp => k _ _ _ (mk_tup ht hp (q1.rep _))⟩)
    · cases hf
  · cases hf
noncomputable def fMul : List Dt → Option Vl := fun xs => (fMulI xs).or ((fRepL xs).or (fRepT xs))
def rMulA (K : PySem.W.Frag) : R2 := fun x y H Q => rI CMul (fun i j => .int (i * j)) x y H Q ∨ (rRep x y H Q ∨ rRepN K x y H Q)
theorem or_mul : OpR X (binaryOp .Mult) (rMulA X.K) := op_mul.or (op_rep.or (op_rep1.or (op_rep0.or op_repT)))
theorem pr_mul : Pr K (ap2 (rMulA K)) fMul := (pr_iC (fun a b h => cMul_ok h) fun a b M H => .i _).or2 (pr_repL.or2 pr_repT)
/-! ### xs[::-1] -/
def fRev : List Dt → Option Vl
  | [.l xs] => some (.l xs.reverse, .t)
  | [.z xs] => some (.l xs.reverse, .t)
  | _ => none
theorem CoL.rev {vs : List V} {xs : List Dt} (c : CoL K M H vs xs) : CoL K M H vs.reverse xs.reverse := by
  induction c using CoL.rec (motive_1 := fun _ _ _ => True) with
  | nil => exact .nil
  | cons h q _ ih =>
    rw [List.reverse_cons, List.reverse_cons]
    exact ih.snoc h
  | _ => trivial
def rRevL (K : PySem.W.Frag) : List V → Hp → VK → Prop
  | [x], H, Q => ∃ a xs, x = .ref a ∧ SqL K H a xs ∧ ∀ p, H p = none → Q (.ref p) (upd H p (.lst xs.reverse))
  | _, _, _ => False
theorem pr_rev : Pr K (rRevL K) fRev := fun M H vs xs x m Q ht c hf k => by
  unfold fRev at hf
  split at hf
  · cases hf
    obtain ⟨v, rfl, c1⟩ := c.one
    obtain ⟨a, us, rfl, h1, q1⟩ := c1.lst
    exact ⟨a, us, rfl, .inl (.inl h1), fun p hp => k _ _ _ (mk_lst ht hp q1.rev)⟩
  · cases hf
    obtain ⟨v, rfl, c1⟩ := c.one
    obtain ⟨a, us, rfl, h1, q1⟩ := c1.frz
    exact ⟨a, us, rfl, h1.sq, fun p hp => k _ _ _ (mk_lst ht hp q1.rev)⟩
  · cases hf
theorem je_rev {e : Expr} {A : Am} {k : Nat} {p1 p2 p3 pos : Pos} (h : JO X cl W e A) : JE X cl W (.Subscript e (.Slice none none (some (.UnaryOp .USub (.Constant (.int 1) k p1) p2)) p3) pos) (mP fRev [A]) := fun tk => (pe_revL (h.pe tk)).yimp fun σ H Q q => by
  have := mP_ok pr_rev q
  cases A <;> exact this
/-! ### a < b < c -/
def mCh (f f' : List Dt → Option Vl) (A B C : Am) : Ev → Ou Vl := fun r => match evA [A, B] r with
  | .ok ys r1 => match look r1 ys with
    | some [x, .i b] => match f [x, .i b] with
      | some (.b true, _) => match evA [C] r1 with
        | .ok zs r2 => match look r2 zs with
          | some [z] => match f' [.i b, z] with
            | some (.b k, _) => .ok (.b k, .c) r2
            | _ => .no
          | _ => .no
        | .ex c fs r2 => .ex c fs r2
        | .no => .no
      | some (.b false, _) => .ok (.b false, .c) r1
      | _ => .no
    | _ => .no
  | .ex c fs r1 => .ex c fs r1
  | .no => .no
theorem px_bool {σ : L2.St} {r r' : Ev} {M0 : Addr → Prop} {H0 : Hp} {G0 G : Nat → List Addr} {k : Bool} {m : Md} (e : ER K r σ G M H) (v : Evo H0 M0 G0 H M G []) : PX K r σ H0 M0 G0 (.bl k) (.b k) .c H M G [] := ⟨e, v, ⟨.b k, rfl⟩, List.nodup_nil, fun _ z => nomatch z⟩
theorem chain_go {rr rr' : R2} {A B C : Am} {f f' : List Dt → Option Vl} {σ : L2.St} {H : Hp} {Q : VK} (hp : Pr X.K (ap2 rr) f) (hp' : Pr X.K (ap2 rr') f') (h : tI X.K cl W (mCh f f' A B C) σ H Q) : tChain rr rr' (tO X.K cl W A) (tO X.K cl W B) (tO X.K cl W C) σ H Q := by
    obtain ⟨r, M, G, e, h⟩ := h
    show tOs X.K cl W [A, B] σ H fun vs H1 => match vs with
      | [x, y] => rr x y H1 fun z H3 => ∃ k, z = .bl k ∧ (if k = true then tO X.K cl W C σ H3 fun w' H4 => rr' y w' H4 Q else Q (.bl false) H3)
      | _ => False
    refine tOs_ok [A, B] e ?_
    simp only [mCh] at h
    cases h1 : evA [A, B] r with
    | no => rw [h1] at h; exact h
    | ex c fs r1 => rw [h1] at h; exact h
    | ok ys r1 =>
      rw [h1] at h
      intro vs H1 M1 G1 e1 v1 a1
      cases hl : look r1 ys with
      | none => simp only [hl] at h
      | some xs =>
        simp only [hl] at h
        have hxs : ∃ x b, xs = [x, .i b] := by
          match xs, h with
          | [x, .i b], _ => exact ⟨x, b, rfl⟩
          | [], h => exact (show False from h).elim
          | [_], h => exact (show False from h).elim
          | _ :: y :: _ :: _, h => cases y <;> exact (show False from h).elim
          | [_, .n], h => exact (show False from h).elim
          | [_, .b _], h => exact (show False from h).elim
          | [_, .s _], h => exact (show False from h).elim
          | [_, .t _], h => exact (show False from h).elim
          | [_, .l _], h => exact (show False from h).elim
          | [_, .z _], h => exact (show False from h).elim
          | [_, .m _ _], h => exact (show False from h).elim
          | [_, .o _ _ _], h => exact (show False from h).elim
        · obtain ⟨x, b, rfl⟩ := hxs
          simp only at h
          have cc : CoL X.K (fun b => M1 b ∧ b ∉ owns G1 ys) H1 vs [x, .i b] := look_cold e1 (fun b z => z.1) (fun b hb z => z.2 hb) a1 hl
          have ht1 : Hotty (fun b => M1 b ∧ b ∉ owns G1 ys) H1 := fun b z => e1.hot b z.1
          have cc0 := cc
          obtain ⟨v, w, rfl, c1, c2⟩ := cc.two
          have ew := c2.int
          subst ew
          have nx : ∀ {k : Bool} {mk : Md}, f [x, .i b] = some (.b k, mk) → (∀ H2 M2 G2, ER X.K r1 σ G2 M2 H2 → Evo H M G H2 M2 G2 [] → (if k = true then tO X.K cl W C σ H2 fun w' H4 => rr' (.int b) w' H4 Q else Q (.bl false) H2)) → rr v (.int b) H1 fun z H3 => ∃ k, z = .bl k ∧ (if k = true then tO X.K cl W C σ H3 fun w' H4 => rr' (.int b) w' H4 Q else Q (.bl false) H3) := fun {k mk} hf q => by
            refine hp _ H1 [v, .int b] _ _ _ _ ht1 cc0 hf fun z H2 F p => ?_
            have p2 := p.px e1 v1 e.hot (by simp [Dt.flat])
            obtain ⟨M3, e3, v3, c3⟩ := p2.giveUp e.hot
            exact ⟨k, c3.bl, q H2 M3 _ e3 v3⟩
          have hff : ∃ k mk, f [x, .i b] = some (.b k, mk) := by
            match hf : f [x, .i b], h with
            | some (.b k, mk), _ => exact ⟨k, mk, rfl⟩
            | none, h => exact (show False from h).elim
            | some (.n, _), h => exact (show False from h).elim
            | some (.i _, _), h => exact (show False from h).elim
            | some (.s _, _), h => exact (show False from h).elim
            | some (.t _, _), h => exact (show False from h).elim
            | some (.l _, _), h => exact (show False from h).elim
            | some (.z _, _), h => exact (show False from h).elim
            | some (.m _ _, _), h => exact (show False from h).elim
            | some (.o _ _ _, _), h => exact (show False from h).elim
          obtain ⟨k, mk, hf⟩ := hff
          rw [hf] at h
          cases k with
          | true =>
            refine nx hf fun H2 M2 G2 e2 v2 => ?_
            rw [if_pos rfl]
            show tOs X.K cl W [C] σ H2 fun vs H3 => match vs with
              | [z] => rr' (.int b) z H3 Q
              | _ => False
            refine tOs_ok [C] e2 ?_
            cases h2 : evA [C] r1 with
            | no => rw [h2] at h; exact h
            | ex c fs r2 => rw [h2] at h; exact fun d H' M' G' p => h d H' M' G' ⟨p.er, v2.trans e.hot p.ev, p.xd⟩
            | ok zs r2 =>
              rw [h2] at h
              intro us H3 M3 G3 e3 v3 a3
              cases hl2 : look r2 zs with
              | none => simp only [hl2] at h
              | some xs2 =>
                simp only [hl2] at h
                have hzz : ∃ z, xs2 = [z] := by
                  match xs2, h with
                  | [z], _ => exact ⟨z, rfl⟩
                  | [], h => exact (show False from h).elim
                  | _ :: _ :: _, h => exact (show False from h).elim
                · obtain ⟨z, rfl⟩ := hzz
                  simp only at h
                  have cc3 : CoL X.K (fun b => M3 b ∧ b ∉ owns G3 zs) H3 us [z] := look_cold e3 (fun b z => z.1) (fun b hb z => z.2 hb) a3 hl2
                  have ht3 : Hotty (fun b => M3 b ∧ b ∉ owns G3 zs) H3 := fun b z => e3.hot b z.1
                  obtain ⟨u, rfl, c5⟩ := cc3.one
                  have hff2 : ∃ k mk, f' [.i b, z] = some (.b k, mk) := by
                    match hf : f' [.i b, z], h with
                    | some (.b k, mk), _ => exact ⟨k, mk, rfl⟩
                    | none, h => exact (show False from h).elim
                    | some (.n, _), h => exact (show False from h).elim
                    | some (.i _, _), h => exact (show False from h).elim
                    | some (.s _, _), h => exact (show False from h).elim
                    | some (.t _, _), h => exact (show False from h).elim
                    | some (.l _, _), h => exact (show False from h).elim
                    | some (.z _, _), h => exact (show False from h).elim
                    | some (.m _ _, _), h => exact (show False from h).elim
                    | some (.o _ _ _, _), h => exact (show False from h).elim
                  · obtain ⟨k, mk2, hf2⟩ := hff2
                    rw [hf2] at h
                    refine hp' _ H3 [.int b, u] _ _ _ _ ht3 (.cons (.i b) (.cons c5 .nil)) hf2 fun z H4 F p => ?_
                    have p2 := p.px e3 (v2.trans e.hot v3) e.hot (by simp [Dt.flat])
                    obtain ⟨M5, e5, v5, c6⟩ := p2.giveUp e.hot
                    have := c6.bl
                    subst this
                    exact h _ H4 M5 _ [] ⟨e5, v5, ⟨.b k, rfl⟩, List.nodup_nil, fun _ z => nomatch z⟩
          | false =>
            refine nx hf fun H2 M2 G2 e2 v2 => ?_
            rw [if_neg Bool.false_ne_true]
            exact h _ H2 M2 G2 [] ⟨e2, v2, ⟨.b _, rfl⟩, List.nodup_nil, fun _ z => nomatch z⟩
theorem je_chain {op op' : CmpOp} {rr rr' : R2} {a b c : Expr} {A B C : Am} {f f' : List Dt → Option Vl} {pos : Pos} (ho : OpR X (compareOp op) rr) (ho' : OpR X (compareOp op') rr') (hp : Pr X.K (ap2 rr) f) (hp' : Pr X.K (ap2 rr') f') (ha : JO X cl W a A) (hb : JO X cl W b B) (hc : JO X cl W c C)
    (hm : lastMarks [op, op'] [b, c] = false := by with_unfolding_all rfl) : JE X cl W (.Compare a [op, op'] [b, c] pos) (mCh f f' A B C) := fun tk => (pe_chain ho ho' (ha.pe tk) (hb.pe tk) (hc.pe tk) hm).yimp fun _ _ _ q => chain_go hp hp' q
theorem jt_chain {op op' : CmpOp} {rr rr' : R2} {a b c : Expr} {A B C : Am} {f f' : List Dt → Option Vl} {pos : Pos} (ho : OpR X (compareOp op) rr) (ho' : OpR X (compareOp op') rr') (hp : Pr X.K (ap2 rr) f) (hp' : Pr X.K (ap2 rr') f') (ha : JO X cl W a A) (hb : JO X cl W b B) (hc : JO X cl W c C)
    (hm : lastMarks [op, op'] [b, c] = false := by with_unfolding_all rfl) : JT X cl W (.Compare a [op, op'] [b, c] pos) (mTe (mCh f f' A B C)) := fun tk => (pt_chain ho ho' (ha.pe tk) (hb.pe tk) (hc.pe tk) hm).yimp fun _ _ _ q => chain_go hp hp' (tI_te q)
end
end Y
/-! Y, part W: a op= b; levels of recursion; the law's own end. -/
namespace Y
open PySem L2 PyProof.Rows
section
variable {X : Cx} {cl : Str → Addr} {W : WX} {K : PySem.W.Frag} {io : Bool} {M M' : Addr → Prop} {H H' : Hp}
def ipC (C : Int → Int → Prop) (f : Int → Int → Int) : TIp := fun x y H Q => ∃ i j, x = .int i ∧ y = .int j ∧ C i j ∧ Q (.int (f i j)) H
theorem ip_addC : PIp X .Add (ipC (fun _ _ => True) fun i j => i + j) := fun pins s σ H x y v u Q I r1 r2 ⟨i, j, h1, h2, _, q⟩ => ip_add pins s σ H x y v u Q I r1 r2 ⟨i, j, h1, h2, q⟩
theorem ip_subC : PIp X .Sub (ipC (fun _ _ => True) fun i j => i - j) := fun pins s σ H x y v u Q I r1 r2 ⟨i, j, h1, h2, _, q⟩ => ip_sub pins s σ H x y v u Q I r1 r2 ⟨i, j, h1, h2, q⟩
theorem ip_mulC : PIp X .Mult (ipC CMul fun i j => i * j) := by
  intro pins s σ H x y v u Q I r1 r2 h
  obtain ⟨i, j, e1, e2, hc, q⟩ := h
  subst e1; subst e2
  obtain ⟨t, rfl⟩ := r1
  obtain ⟨t', rfl⟩ := r2
  exact imul_int ⟨.int _, H, I.tok _, ⟨_, rfl⟩, q⟩ hc.ok
/-- x op= e, numbers -/
def cYes : Int → Int → Bool := fun _ _ => true
def sAug (i : Nat) (C : Int → Int → Bool) (g : Int → Int → Int) (f : Ev → Ou Vl) : Ev → So := fun r => match r[i]? with
  | some (some (.i a, _)) => match f r with
    | .ok (.i b, _) r1 => if C a b then .nx (r1.set i (some (.i (g a b), .c))) else .no
    | .ex c fs r1 => .ex c fs r1
    | _ => .no
  | _ => .no
theorem js_aug {x : Str} {e : Expr} {f : Ev → Ou Vl} {op : Operator} {C : Int → Int → Prop} {C' : Int → Int → Bool} {g : Int → Int → Int} {pos pos' : Pos} (i : Nat) (ho : PIp X op (ipC C g)) (hC : ∀ a b, C' a b = true → C a b) (hN : X.N.Nodup) (hi : X.N[i]? = some x) (hx : Loc X.env.scope x) (hio : io = true → i ≠ 0) (he : JE X cl W e f)
    (hf : X.fn x = true ∨ X.env.scope.names.lookup x = some .local := by first | exact .inl rfl | exact .inr rfl | assumption) : JS X cl W io (.AugAssign (.Name x pos') op e pos) (sAug i C' g f) := fun tk =>
  (ps_aug hN hi hx (he tk) ho hf).yimp fun D σ H ⟨r, M, G, e, h⟩ => by
    simp only [sAug] at h
    split at h
    · rename_i a m hr
      obtain ⟨v, hv, rp⟩ := e.at_ i _ m hr
      have hva : v = .int a := (rp.cold (M' := fun _ => False) e.hot (fun _ _ z => z) (fun _ z => z.elim)).int
      subst hva
      refine ⟨_, hv, r, M, G, e, ?_⟩
      cases hf : f r with
      | no => rw [hf] at h; exact h
      | ex c fs r1 => rw [hf] at h; exact fun d H' M' G' p => h d σ H' M' G' ⟨p, fun _ => rfl⟩
      | ok ym r1 =>
        obtain ⟨y, my⟩ := ym
        rw [hf] at h
        intro w H1 M1 G1 F p
        obtain ⟨M2, e2, v2, c2⟩ := p.giveUp e.hot
        have hy : ∃ b, y = .i b := by
          match y, h with
          | .i b, _ => exact ⟨b, rfl⟩
          | .n, h => exact (show False from h).elim
          | .b _, h => exact (show False from h).elim
          | .s _, h => exact (show False from h).elim
          | .t _, h => exact (show False from h).elim
          | .l _, h => exact (show False from h).elim
          | .z _, h => exact (show False from h).elim
          | .m _ _, h => exact (show False from h).elim
          | .o _ _ _, h => exact (show False from h).elim
        obtain ⟨b, rfl⟩ := hy
        simp only at h
        split at h
        · rename_i hc
          refine ⟨a, b, rfl, c2.int, hC a b hc, ?_⟩
          have hil : i < σ.length := (List.getElem?_eq_some_iff.mp hv).1
          have e3 := e2.put (i := i) (v := .int (g a b)) (x := .i (g a b)) (m := .c) (F := []) ⟨.i _, rfl⟩ List.nodup_nil (fun _ z => nomatch z) hil
          exact h _ H1 M2 _ ⟨e3, v2.less fun j b hb => ⟨j, by
            by_cases q : j = i
            · simp [q] at hb
            · simpa [q] using hb⟩, fun z => List.getElem?_set_ne (hio z)⟩
        · exact h.elim
    · exact h.elim
end
section
variable {P : Program} {w : World} {K : PySem.W.Frag} {mg : Str → Option Value} {base : Heap} {cl : Str → Addr} {io : Bool}
/-- nothing is promised below the last level -/
def fnNo : Fn := fun _ => .no
theorem fn_no {x qual : Str} {st : Stmt} {f : Addr} {fd : FuncData} {N ps : List Str} {k n : Nat} (F : Fun K x qual st f fd) (S : FnScope N ps (defScope st)) (hn : ps.length = n := by rfl) :
    FnOk P w K mg base (L2.CX P w) (k + 1) f fd ps (spY K cl io n fnNo) := by
  subst hn
  exact fn_okX F S (fun vs H Q E h => h.1) fun cdv A outer s H vs Q E hr ⟨_, _, _, _, _, _, h⟩ => h.elim
theorem _root_.L2.Fun.kb {x qual : Str} {st : Stmt} {f : Addr} {fd : FuncData} {ps ks : List Str} {n : Nat} {p : List Nat} (F : Fun K x qual st f fd)
    (h : ∀ (kV doc pm : Value) (an : Option Addr) (cdv ct : Value) (us ws : List Value), us.length = n → ws.length = ks.length → bindArgs (PySem.W.fnOf x qual (defArgs st) (defBody st) (defScope st) .none kV doc pm an cdv ct) ⟨us, ks.zip ws⟩ = pure (ps.zip (pick p .none (us ++ ws)))) : KB K fd ps n ks p := by
  obtain ⟨oc, od, kV, doc, pm, an, cdv, ct, osl, rfl, lk, hcd⟩ := F.ex
  exact ⟨fun s us ws h1 h2 => .of_eq (h kV doc pm an cdv ct us ws h1 h2)⟩
/-- what the head asks: the law's def says True of its script -/
theorem law_in {fn : Fn} {ns : List Int} {a : Addr} {H : Hp} (h : ∃ m z, fn [(.z (ns.map .i), .c)] = .rt (.b true, m) z) (hO : Only H) (hS : SqL K H a (ns.map V.int)) : spY K cl false 1 fn [.ref a] H (fun v _ => v = .bl true) fun _ _ _ => False := by
  obtain ⟨m, z, h⟩ := h
  have hF : SqF K H a (ns.map V.int) := by
    rcases hS with hS | hS
    · rcases hS with hS | ⟨o, hS⟩
      · rcases hO a with q | ⟨o, xs, q⟩ <;> (rw [hS] at q; cases q)
      · exact .inl ⟨o, hS⟩
    · exact .inr hS
  have ci : ∀ ns : List Int, CoL K (fun _ => False) H (ns.map V.int) (ns.map .i) := by
    intro ns
    induction ns with
    | nil => exact .nil
    | cons n ns ih => exact .cons (.i n) ih
  refine ⟨rfl, cold [.z (ns.map .i)], fun _ => False, fun _ => [], ER.ofCold (fun _ z => z.elim) (.cons (.z hF (ci ns)) .nil), fun _ _ => rfl, ?_⟩
  show match fn [(.z (ns.map .i), .c)] with
    | .rt (x, m) z => _
    | .ex c fs z => _
    | .no => False
  rw [h]
  intro v H' M' G' F p
  obtain ⟨M2, _, _, c⟩ := p.giveUp (fun _ z => z.elim)
  exact c.bl
end
end Y
/-! Y, part X: small things for the generator's print. -/
namespace Y
open PySem L2 PyProof.Rows
theorem cx_never {P : Program} {w : World} {H : Hp} {s s' : Shared} {e : Value} (h : L2.CX P w [] H s (fun _ _ _ => False) e s') : False := by
  obtain ⟨_, _, _, _, _, _, _, _, _, _, _, _, z⟩ := h
  exact z
theorem u65 {A : Around} {k : Nat} (hr : Room k A) : A.units + 65 < cLine := by have := hr.un; omega
end Y
/-! Y, part J: a list within owned lists grows: name[e]..[e].append(v). -/
namespace Y
open PySem L2 PyProof.Rows
section
variable {K : PySem.W.Frag} {cl : Str → Addr} {W : WX} {io : Bool} {M M' M0 : Addr → Prop} {H H' H0 : Hp} {G G' G0 : Nat → List Addr} {r r' : Ev} {σ σ0 : L2.St} {D : Ends}
/-- indices, the last one first -/
def evK : List (Ev → Ou Vl) → Ev → Option (List Int × Ev)
  | [], r => some ([], r)
  | f :: fs, r => match evK fs r with
    | some (ks, r1) => match f r1 with
      | .ok (.i k, _) r2 => some (ks ++ [k], r2)
      | _ => none
    | none => none
def tPath (K : PySem.W.Frag) (cl : Str → Addr) (W : WX) (i : Nat) : List (Ev → Ou Vl) → TE
  | [] => tVar i
  | f :: fs => tOp (rIxL K) (tPath K cl W i fs) (tI K cl W f)
def JPa (X : Cx) (cl : Str → Addr) (W : WX) (o : Expr) (i : Nat) (fs : List (Ev → Ou Vl)) : Prop := Takes X W → PE X o (tPath X.K cl W i fs)
theorem jpa_n {X : Cx} {o : Expr} (i : Nat) (h : PE X o (tVar i)) : JPa X cl W o i [] := fun _ => h
theorem jpa_c {X : Cx} {o ix : Expr} {i : Nat} {f : Ev → Ou Vl} {fs : List (Ev → Ou Vl)} {pos : Pos} (h : JPa X cl W o i fs) (hf : JE X cl W ix f) (hs : PlainIx ix) : JPa X cl W (.Subscript o ix pos) i (f :: fs) := fun tk => pe_ix ix_list (h tk) (hf tk) hs
def getP : Dt → List Int → Option Dt
  | x, [] => some x
  | .l xs, k :: ks => (atI xs k).bind fun y => getP y ks
  | _, _ :: _ => none
def apP (y : Dt) : Dt → List Int → Option Dt
  | .l xs, [] => if xs.length < LIM then some (.l (xs ++ [y])) else none
  | .l xs, k :: ks => (ixN xs.length k).bind fun j => (xs[j]?).bind fun x => (apP y x ks).map fun x' => .l (xs.set j x')
  | _, _ => none
/-- w, y stand at that path -/
inductive At (H : Hp) : V → Dt → List Int → V → Dt → Prop
  | nil {v : V} {x : Dt} : At H v x [] v x
  | cons {a : Addr} {us : List V} {xs : List Dt} {k : Int} {ks : List Int} {v' w : V} {x' y : Dt} : H a = some (.lst us) → atI us k = some v' → atI xs k = some x' → At H v' x' ks w y → At H (.ref a) (.l xs) (k :: ks) w y
theorem At.snoc {v : V} {x : Dt} {ks : List Int} {a : Addr} {us : List V} {xs : List Dt} {k : Int} {w : V} {y : Dt} (h : At H v x ks (.ref a) (.l xs)) (h1 : H a = some (.lst us)) (h2 : atI us k = some w) (h3 : atI xs k = some y) : At H v x (ks ++ [k]) w y := by
  generalize hv : V.ref a = va at h
  generalize hx : Dt.l xs = xa at h
  induction h with
  | nil => subst hv; subst hx; exact .cons h1 h2 h3 .nil
  | cons q1 q2 q3 _ ih => exact .cons q1 q2 q3 (ih hv hx)
theorem atI_ho {us : List V} {xs : List Dt} {F : List Addr} {k : Int} {x : Dt} (h : HoL K H us xs F) (e : atI xs k = some x) : ∃ v F', atI us k = some v ∧ Ho K H v x F' ∧ ∀ b ∈ F', b ∈ F := by
  have go : ∀ {us : List V} {xs : List Dt} {F : List Addr} {j : Nat}, HoL K H us xs F → xs[j]? = some x → ∃ v F', us[j]? = some v ∧ Ho K H v x F' ∧ ∀ b ∈ F', b ∈ F := by
    intro us
    induction us with
    | nil => intro xs F j h e; cases h; simp at e
    | cons u us ih =>
      intro xs F j h e
      cases h with
      | cons h1 h2 =>
        cases j with
        | zero => simp at e; subst e; exact ⟨u, _, rfl, h1, fun b hb => List.mem_append_left _ hb⟩
        | succ j =>
          obtain ⟨v, F', q1, q2, q3⟩ := ih h2 (j := j) (by simpa using e)
          exact ⟨v, F', by simpa using q1, q2, fun b hb => List.mem_append_right _ (q3 b hb)⟩
  unfold atI at e ⊢
  rw [h.len]
  cases hj : ixN xs.length k with
  | none => rw [hj] at e; cases e
  | some j =>
    rw [hj] at e
    obtain ⟨v, F', q1, q2, q3⟩ := go h e
    exact ⟨v, F', q1, q2, q3⟩
theorem At.ho {v : V} {x : Dt} {ks : List Int} {w : V} {y : Dt} (h : At H v x ks w y) : ∀ {F : List Addr}, Ho K H v x F → ∃ F', Ho K H w y F' ∧ ∀ b ∈ F', b ∈ F := by
  induction h with
  | nil => exact fun h => ⟨_, h, fun _ z => z⟩
  | cons q1 q2 q3 _ ih =>
    intro F h
    cases h with
    | l h1 h2 =>
      rw [q1] at h1; cases h1
      obtain ⟨v', F', e1, e2, e3⟩ := atI_ho h2 q3
      rw [q2] at e1; cases e1
      obtain ⟨F2, z1, z2⟩ := ih e2
      exact ⟨F2, z1, fun b hb => List.mem_cons_of_mem _ (e3 b (z2 b hb))⟩
theorem At.stay {v : V} {x : Dt} {ks : List Int} {w : V} {y : Dt} (h : At H v x ks w y) : ∀ {F : List Addr}, Ho K H v x F → (∀ b ∈ F, H' b = H b) → At H' v x ks w y := by
  induction h with
  | nil => exact fun _ _ => .nil
  | cons q1 q2 q3 _ ih =>
    intro F h k
    cases h with
    | l h1 h2 =>
      have h1' := h1
      rw [q1] at h1'; cases h1'
      obtain ⟨v', F', e1, e2, e3⟩ := atI_ho h2 q3
      rw [q2] at e1; cases e1
      exact .cons ((k _ List.mem_cons_self).trans h1) q2 q3 (ih e2 fun b hb => k b (List.mem_cons_of_mem _ (e3 b hb)))
/-- held besides: its lists stay as they were -/
theorem held_same {v : V} {x : Dt} {F F1 : List Addr} (h : Ho K H v x F1) (k : ∀ b ∈ F1, ∀ i, b ∉ G i) (a : Evo H M G H' M' G' F) : ∀ b ∈ F1, H' b = H b := fun b hb => by
  obtain ⟨xs, q⟩ := h.lists b hb
  rw [q]; exact a.pres b _ q (k b hb)
theorem path_ok {i : Nat} {v0 : V} {x0 : Dt} {F0 : List Addr} (hv : σ[i]? = some (some v0)) : ∀ (fs : List (Ev → Ou Vl)) {ks : List Int} {r r' : Ev} {M : Addr → Prop} {G : Nat → List Addr} {H : Hp} {y : Dt} {Q : VK}, ER K r σ G M H → Ho K H v0 x0 F0 → (∀ b ∈ F0, M b ∧ ∀ j, b ∉ G j) → evK fs r = some (ks, r') → getP x0 ks = some y →
    (∀ w H' M' G' F, ER K r' σ G' M' H' → Evo H M G H' M' G' F → Ho K H' v0 x0 F0 → (∀ b ∈ F0, M' b ∧ ∀ j, b ∉ G' j) → (∀ b ∈ F0, H' b = H b) → At H' v0 x0 ks w y → Q w H') → tPath K cl W i fs σ H Q
  | [], ks, r, r', M, G, H, y, Q, e, h0, k0, he, hg, q => by
    cases he
    cases hg
    exact ⟨v0, hv, q _ _ _ _ _ e .refl h0 k0 (fun _ _ => rfl) .nil⟩
  | f :: fs, ks, r, r', M, G, H, y, Q, e, h0, k0, he, hg, q => by
    simp only [evK] at he
    cases h1 : evK fs r with
    | none => rw [h1] at he; cases he
    | some p1 =>
      obtain ⟨ks1, r1⟩ := p1
      rw [h1] at he
      simp only at he
      cases hf : f r1 with
      | no => rw [hf] at he; cases he
      | ex c fs r2 => rw [hf] at he; cases he
      | ok kd r2 =>
        obtain ⟨kd, mk⟩ := kd
        rw [hf] at he
        cases kd with
        | i k =>
          simp only [Option.some.injEq, Prod.mk.injEq] at he
          obtain ⟨rfl, rfl⟩ := he
          have gp : ∀ {x : Dt} {ks1 : List Int}, getP x (ks1 ++ [k]) = some y → ∃ xs, getP x ks1 = some (.l xs) ∧ atI xs k = some y := by
            intro x ks1
            induction ks1 generalizing x with
            | nil =>
              intro h
              cases x with
              | l xs =>
                simp only [List.nil_append, getP] at h
                cases hx : atI xs k with
                | none => rw [hx] at h; cases h
                | some z => rw [hx] at h; exact ⟨xs, rfl, by rw [hx]; simpa [getP] using h⟩
              | _ => simp [getP] at h
            | cons k1 ks1 ih =>
              intro h
              cases x with
              | l xs =>
                simp only [List.cons_append, getP] at h ⊢
                cases hx : atI xs k1 with
                | none => rw [hx] at h; cases h
                | some z => rw [hx] at h; exact ih h
              | _ => simp [getP] at h
          obtain ⟨xs, g1, g2⟩ := gp hg
          show tPath K cl W i fs σ H _
          refine path_ok hv fs e h0 k0 h1 g1 fun w H1 M1 G1 F1 e1 v1 o1 k1 s1 a1 => ?_
          obtain ⟨Fw, hw, sw⟩ := a1.ho o1
          cases hw with
          | @l a us _ F2 hh c =>
            refine ⟨r1, M1, G1, e1, ?_⟩
            rw [hf]
            intro u H2 M2 G2 F3 p
            have hu : u = .int k := by
              obtain ⟨_, _, _, c⟩ := p.giveUp e1.hot
              exact c.int
            subst hu
            have s2 := held_same o1 (fun b hb => (k1 b hb).2) p.ev
            obtain ⟨rp2, k2, _⟩ := Rp.evo (m := .a) o1 k1 e1 p.ev
            obtain ⟨z, F', e4, e5, e6⟩ := atI_ho c g2
            have hh2 : H2 a = some (.lst us) := (s2 a (sw a List.mem_cons_self)).trans hh
            exact ⟨a, us, k, z, rfl, rfl, .inl (.inl hh2), e4, q z H2 M2 G2 F3 p.er (v1.trans e.hot p.ev) rp2 k2 (fun b hb => (s2 b hb).trans (s1 b hb)) ((a1.stay o1 s2).snoc hh2 e4 g2)⟩
        | _ => cases he
theorem ho_ap {l : Addr} {zs : List V} {ys : List Dt} {w : V} {y : Dt} {v : V} {x : Dt} {ks : List Int} {u : V} {t : Dt} (h : At H v x ks u t) (hu : u = .ref l) (ht : t = .l ys) (hl : H l = some (.lst zs)) (hy : Ho K H w y []) : ∀ {F : List Addr}, Ho K H v x F → F.Nodup → ys.length < LIM →
    ∃ x', apP y x ks = some x' ∧ Ho K (upd H l (.lst (zs ++ [w]))) v x' F ∧ l ∈ F := by
  have hup : ∀ {v : V} {x : Dt} {F : List Addr}, Ho K H v x F → l ∉ F → Ho K (upd H l (.lst (zs ++ [w]))) v x F := fun h n => h.up hl n
  induction h with
  | nil =>
    intro F h nd hL
    subst hu; subst ht
    cases h with
    | l h1 h2 =>
      rw [hl] at h1; cases h1
      obtain ⟨n1, n2⟩ := List.nodup_cons.mp nd
      refine ⟨.l (ys ++ [y]), by simp [apP, hL], .l upd_same ?_, List.mem_cons_self⟩
      have := (h2.snoc hy).up (u := .lst (zs ++ [w])) hl (by simpa using n1)
      simpa using this
  | @cons a us xs k ks v' w' x' y' q1 q2 q3 q4 ih =>
    intro F h nd hL
    cases h with
    | @l _ _ _ F1 h1 h2 =>
      rw [q1] at h1; cases h1
      obtain ⟨n1, n2⟩ := List.nodup_cons.mp nd
      unfold atI at q2 q3
      rw [h2.len] at q2
      cases hj : ixN xs.length k with
      | none => rw [hj] at q3; cases q3
      | some j =>
        rw [hj] at q2 q3
        have q2 : us[j]? = some v' := q2
        have q3 : xs[j]? = some x' := q3
        have go : ∀ {us : List V} {xs : List Dt} {F : List Addr} {j : Nat}, HoL K H us xs F → F.Nodup → us[j]? = some v' → xs[j]? = some x' → ∃ x2, apP y x' ks = some x2 ∧ HoL K (upd H l (.lst (zs ++ [w]))) us (xs.set j x2) F ∧ l ∈ F := by
          intro us
          induction us with
          | nil => intro xs F j h _ e; cases h; simp at e
          | cons u us ihu =>
            intro xs F j h nd e1 e2
            cases h with
            | @cons _ _ _ _ Fa Fb h1 h2 =>
              obtain ⟨m1, m2, m3⟩ := List.nodup_append.mp nd
              cases j with
              | zero =>
                simp at e1 e2
                subst e1; subst e2
                obtain ⟨x2, z1, z2, z3⟩ := ih hu ht h1 m1 hL
                exact ⟨x2, z1, .cons z2 (h2.up hl fun hb => m3 _ z3 _ hb rfl), List.mem_append_left _ z3⟩
              | succ j =>
                obtain ⟨x2, z1, z2, z3⟩ := ihu h2 m2 (j := j) (by simpa using e1) (by simpa using e2)
                exact ⟨x2, z1, .cons (hup h1 fun hb => m3 _ hb _ z3 rfl) z2, List.mem_append_right _ z3⟩
        obtain ⟨x2, z1, z2, z3⟩ := go h2 n2 q2 q3
        have la : a ≠ l := fun q => n1 (q ▸ z3)
        refine ⟨.l (xs.set j x2), by simp [apP, hj, q3, z1], .l (by rw [upd_ne la]; exact q1) z2, List.mem_cons_of_mem _ z3⟩
/-- name[e]..[e].append(f), all lists of the name owned; what is added is flat -/
def sApN (i : Nat) (fs : List (Ev → Ou Vl)) (f : Ev → Ou Vl) : Ev → So := fun r => match r[i]? with
  | some (some (x0, .a)) => match evK fs (r.set i none) with
    | some (ks, r1) => match getP x0 ks with
      | some (.l ys) => match f r1 with
        | .ok (y, _) r2 => if y.flat = true ∧ ys.length < LIM then match apP y x0 ks with
            | some x' => .nx (r2.set i (some (x', .a)))
            | none => .no
          else .no
        | _ => .no
      | _ => .no
    | none => .no
  | _ => .no
end
section
variable {X : Cx} {cl : Str → Addr} {W : WX} {io : Bool}
theorem js_apN {o a : Expr} {f : Ev → Ou Vl} {fs : List (Ev → Ou Vl)} {ap cp pos : Pos} {i : Nat} (ho : JPa X cl W o i fs) (ha : JE X cl W a f) (hbase : attributeBase o "append" X.env (eval o X.env) = eval o X.env := by rfl)
    (hfew : ((backTo cp (starEach [a] X.env)).all (fun x => !x.1) && (backToKw cp (keywordEach [] X.env)).all (fun x => x.1.isSome) && decide (([a] : List Expr).length + ([] : List Keyword).length + (if ([] : List Keyword).isEmpty then 0 else 1) < 30)) = true := by rfl)
    (hline : (ap.endLine == cp.line) = true := by rfl) (hs : starEach [a] X.env = (false, eval a X.env) :: starEach [] X.env := by rfl) (hplain : (backTo cp (starEach [] X.env)).any (·.1) = false := by rfl) (hsw : swapsWith (.Call (.Attribute o "append" ap) [a] [] cp) none pos.line X.env = pure false := by rfl) :
    JS X cl W io (.Expr (.Call (.Attribute o "append" ap) [a] [] cp) pos) (sApN i fs f) := fun tk =>
  (ps_expr (pe_bm PySem.F.plainAttrs_list PySem.F.slot_list_append PySem.F.type_list_append mt_append (ho tk) (pa_cons (ha tk) pa_nil hs) hbase hfew hline hs hplain) hsw).yimp fun D σ H ⟨r, M, G, e, q⟩ => by
    simp only [sApN] at q
    split at q
    · rename_i x0 hr
      obtain ⟨v0, hv, rp0⟩ := e.at_ i x0 .a hr
      have rp0 : Ho X.K H v0 x0 (G i) := rp0
      split at q
      · rename_i ks r1 hk
        split at q
        · rename_i ys hg
          have ed := e.drop i
          have kd : ∀ b ∈ G i, M b ∧ ∀ j, b ∉ (fun j => if j = i then [] else G j) j := fun b hb => ⟨e.sub i b hb, fun j hj => by
            by_cases z : j = i
            · simp [z] at hj
            · simp only [if_neg z] at hj
              exact e.dj j i z b hj hb⟩
          refine path_ok hv fs ed rp0 kd hk hg fun w H1 M1 G1 F1 e1 v1 o1 k1 s1 a1 => ?_
          obtain ⟨Fw, hw, sw⟩ := a1.ho o1
          cases hw with
          | @l l us _ F2 hh c =>
            refine ⟨ty_list hh, r1, M1, G1, e1, ?_⟩
            cases hf : f r1 with
            | no => rw [hf] at q; exact q.elim
            | ex c fs r2 => rw [hf] at q; exact q.elim
            | ok ym r2 =>
              obtain ⟨y, my⟩ := ym
              rw [hf] at q
              simp only at q
              split at q
              · rename_i hc
                intro u H2 M2 G2 F3 p
                obtain ⟨rp2, k2, _⟩ := Rp.evo (m := .a) o1 k1 e1 p.ev
                have rp2 : Ho X.K H2 v0 x0 (G i) := rp2
                have s2 := held_same o1 (fun b hb => (k1 b hb).2) p.ev
                have hh2 : H2 l = some (.lst us) := (s2 l (sw l List.mem_cons_self)).trans hh
                have hy : Ho X.K H2 u y [] := by
                  obtain ⟨_, _, _, c⟩ := p.giveUp e1.hot
                  exact c.ho hc.1
                obtain ⟨x', z1, z2, z3⟩ := ho_ap (a1.stay o1 s2) rfl rfl hh2 hy rp2 (e.nd i) hc.2
                rw [z1] at q
                refine ⟨l, us, u, rfl, rfl, hh2, by rw [c.len]; exact lim_lt hc.2, ?_⟩
                have lM := (k2 l z3).1
                have e3 : ER X.K r2 σ G2 M2 (upd H2 l (.lst (us ++ [u]))) := p.er.evoF (fun b o h z => by
                  have : b ≠ l := fun y => by
                    rcases z with z | ⟨j, z⟩
                    · exact z (y ▸ lM)
                    · exact (k2 l z3).2 j (y ▸ z)
                  rw [upd_ne this]; exact h) (fun b z => .inl z) (fun j b hb => p.er.sub j b hb) (hot_up p.er.hot)
                have e4 := put_back hv e3 (m := .a) z2 (e.nd i) k2
                have v2 := v1.trans ed.hot p.ev
                have gd : ∀ {b : Addr} {j : Nat}, b ∈ (fun j => if j = i then [] else G j) j → b ∈ G j := fun {b j} hb => by
                  by_cases z : j = i
                  · simp [z] at hb
                  · simpa [z] using hb
                have nl : ∀ {b : Addr}, (∀ j, b ∉ G j) → b ≠ l := fun {b} hb z => hb i (z ▸ z3)
                exact q σ _ M2 _ ⟨e4, ⟨fun b o h hb => by rw [upd_ne (nl hb)]; exact v2.pres b o h fun j hj => hb j (gd hj), fun b h => by
                  by_cases z : b = l
                  · rw [z, upd_same] at h; cases h
                  · rw [upd_ne z] at h; exact v2.dom b h, v2.grow, fun b h hb => v2.keep b h fun j hj => hb j (gd hj), fun j b hb => by
                  by_cases z : j = i
                  · simp only [if_pos z] at hb; exact .inl ⟨i, hb⟩
                  · simp only [if_neg z] at hb
                    exact (v2.env j b hb).imp (fun ⟨j', z'⟩ => ⟨j', gd z'⟩) id, fun _ z => nomatch z⟩, fun _ => rfl⟩
              · exact q.elim
        · exact q.elim
      · exact q.elim
    · exact q.elim
end
end Y
/-! Y, part K: repr, extend, pop, displays that own what they hold. -/
namespace Y
open PySem L2 PyProof.Rows
section
variable {X : Cx} {K : PySem.W.Frag} {M M' : Addr → Prop} {H H' : Hp}
/-- data whose repr is told -/
def rpD (x : Dt) : Bool := (toP x).showable && !(toP x).hasDict && decide ((toP x).shown.length ≤ sizeLine) && decide ((toP x).depth ≤ 20)
def shw (x : Dt) : Str := (toP x).shown
def isSq : Dt → Bool
  | .t _ => true
  | .l _ => true
  | _ => false
def fRepr : List Dt → Option Vl
  | [x] => if isSq x && rpD x then some (.s (shw x), .c) else none
  | _ => none
def rRepr (K : PySem.W.Frag) : List V → Hp → VK → Prop := fun vs H Q => ∃ (a : Addr) (d : PyData), vs = [.ref a] ∧ Dp K H (.ref a) d ∧ d.showable = true ∧ d.hasDict = false ∧ d.shown.length ≤ sizeLine ∧ d.depth ≤ 20 ∧ Q (.str d.shown) H
theorem cr_repr (hu : X.A.units + 64 < cLine) (hg : X.A.guards = some []) : CallR X (.builtin "repr") (rRepr X.K) := by
  intro pins s σ H xs us Q I r h
  obtain ⟨a, d, rfl, hd, h1, h2, h3, h4, q⟩ := h
  rw [Vals.ref1 r]
  obtain ⟨as, rd⟩ := Dp.reads I d _ _ hd (show RelV (.ref a) (.ref a) from rfl)
  exact repr_of_reads' rd h1 (PyData.noDict_hsm h2) hg (by omega) (fun _ _ e => e) (fun h' u tk hk => ⟨.str d.shown, H, I.kept hk, ⟨u, rfl⟩, q⟩) h3
theorem pr_repr : Pr K (rRepr K) fRepr := fun M H vs xs x m Q ht c hf k => by
  unfold fRepr at hf
  split at hf
  · rename_i x
    split at hf
    · rename_i h
      cases hf
      obtain ⟨v, rfl, c1⟩ := c.one
      simp only [rpD, Bool.and_eq_true, decide_eq_true_eq, Bool.not_eq_true'] at h
      obtain ⟨hs, ⟨⟨h1, h2⟩, h3⟩, h4⟩ := h
      have hv : ∃ a, v = .ref a := by cases c1 <;> first | exact ⟨_, rfl⟩ | simp [isSq] at hs
      obtain ⟨a, rfl⟩ := hv
      exact ⟨a, toP x, rfl, c1.dp (nob_hd x (by simpa using h2)), h1, h2, h3, h4, k _ _ _ (mk_c ht (.s _))⟩
    · cases hf
  · cases hf
end
section
variable {K : PySem.W.Frag} {cl : Str → Addr} {W : WX} {io : Bool} {M M' M0 : Addr → Prop} {H H' H0 : Hp} {G G' G0 : Nat → List Addr} {r r' : Ev} {σ σ0 : L2.St} {D : Ends}
/-- a value given up, told as before -/
theorem PX.cold {v : V} {x : Dt} {m : Md} {F : List Addr} (ht : Hotty M H) (p : PX K r' σ H M G v x m H' M' G' F) : ∃ M2, PX K r' σ H M G v x .c H' M2 G' [] := by
  obtain ⟨M2, e2, v2, c2⟩ := p.giveUp ht
  exact ⟨M2, e2, v2, ⟨c2, rfl⟩, List.nodup_nil, fun _ z => nomatch z⟩
/-- name.extend(f), the name's list owned -/
def sExt (i : Nat) (f : Ev → Ou Vl) : Ev → So := fun r => if isL i r then sWith f (fun y r1 => match y.1, r1[i]? with
    | .l ys, some (some (.l xs, .t)) => if xs.length + ys.length ≤ LIM then .nx (r1.set i (some (.l (xs ++ ys), .t))) else .no
    | _, _ => .no) r else .no
theorem CoL.app' : ∀ {us vs : List V} {xs ys : List Dt}, CoL K M H us xs → CoL K M H vs ys → CoL K M H (us ++ vs) (xs ++ ys)
  | _, _, _, _, .nil, h => h
  | _, _, _, _, .cons h1 h2, h => .cons h1 (CoL.app' h2 h)
/-- one's own list is given other items -/
theorem own_go {i : Nat} {xs : List Dt} {v : V} (e : ER K r σ G M H) (hr : r[i]? = some (some (.l xs, .t))) (hv : σ[i]? = some (some v)) :
    ∃ a us, v = .ref a ∧ H a = some (.lst us) ∧ CoL K M H us xs ∧ a ∈ G i ∧ ∀ {ws : List V} {ys : List Dt}, CoL K M H ws ys → ER K (r.set i (some (.l ys, .t))) σ (fun j => if j = i then G i else G j) M (upd H a (.lst ws)) := by
  obtain ⟨v', hv', rpx⟩ := e.at_ i _ _ hr
  rw [hv] at hv'; cases hv'
  obtain ⟨a, us, zs, rfl, hz, hg, h3, c0⟩ := rpx
  cases hz
  have aG : a ∈ G i := by rw [hg]; simp
  have aM := e.sub i a aG
  refine ⟨a, us, rfl, h3, c0, aG, fun {ws ys} c => ?_⟩
  rw [hg]
  refine e.wr hv (fun b o h hb => by rw [upd_ne fun q => hb (by rw [q]; exact aG)]; exact h) (fun b z => .inl z) (fun j b _ hb => e.sub j b hb) (hot_up e.hot) ⟨a, ws, ys, rfl, rfl, rfl, upd_same, c.fm (fm_up e.hot aM h3)⟩ (by simp) fun b hb => ?_
  rw [List.mem_singleton.mp hb]
  exact ⟨aM, fun j hj z => e.dj j i hj a z aG⟩
end
section
variable {X : Cx} {cl : Str → Addr} {W : WX} {io : Bool}
theorem js_ext {o a : Expr} {f : Ev → Ou Vl} {ap cp pos : Pos} (i : Nat) (ho : PE X o (tVar i)) (ha : JE X cl W a f) (hbase : attributeBase o "extend" X.env (eval o X.env) = eval o X.env := by rfl)
    (hfew : ((backTo cp (starEach [a] X.env)).all (fun x => !x.1) && (backToKw cp (keywordEach [] X.env)).all (fun x => x.1.isSome) && decide (([a] : List Expr).length + ([] : List Keyword).length + (if ([] : List Keyword).isEmpty then 0 else 1) < 30)) = true := by rfl)
    (hline : (ap.endLine == cp.line) = true := by rfl) (hs : starEach [a] X.env = (false, eval a X.env) :: starEach [] X.env := by rfl) (hplain : (backTo cp (starEach [] X.env)).any (·.1) = false := by rfl) (hsw : swapsWith (.Call (.Attribute o "extend" ap) [a] [] cp) none pos.line X.env = pure false := by rfl) :
    JS X cl W io (.Expr (.Call (.Attribute o "extend" ap) [a] [] cp) pos) (sExt i f) := fun tk =>
  (ps_expr (pe_bm PySem.F.plainAttrs_list PySem.F.slot_list_extend PySem.F.type_list_extend mt_extend ho (pa_cons (ha tk) pa_nil hs) hbase hfew hline hs hplain) hsw).yimp fun D σ H ⟨r, M, G, e, q⟩ => by
    simp only [sExt] at q
    split at q
    · rename_i hL
      obtain ⟨a0, us0, hv0, hh0⟩ := e.isL' hL
      refine ⟨.ref a0, hv0, ty_list hh0, ?_⟩
      refine tIS_with (f := f) ⟨r, M, G, e, q⟩ fun r M G y m r' w H' M' G' F e p k => ?_
      obtain ⟨M2, p2⟩ := p.cold e.hot
      simp only at k
      split at k
      · rename_i ys xs hr
        split at k
        · rename_i hc
          obtain ⟨b, zs, rfl, h1, q1⟩ := p2.rp.1.lst
          obtain ⟨a, us, h2, h3, c0, aG, e3⟩ := own_go p2.er hr hv0
          cases h2
          have e4 := e3 (c0.app' q1)
          refine ⟨a0, b, us, zs, rfl, rfl, h3, h1, by rw [c0.len, q1.len]; exact lim_size hc, ?_⟩
          exact k σ _ M2 _ ⟨e4, ap_evo e p2 (fun b hb => .inl hb) (fun b z => z) (fun b z _ => z) aG, fun _ => rfl⟩
        · exact k.elim
      · exact k.elim
    · exact q.elim
/-- name.pop(f), the name's list owned -/
def mPop (i : Nat) (f : Ev → Ou Vl) : Ev → Ou Vl := fun r => if isL i r then match f r with
    | .ok (.i k, _) r1 => match r1[i]? with
      | some (some (.l xs, .t)) => if xs.length ≤ LIM then match seqIndex? k xs.length with
          | some j => match xs[j]? with
            | some y => .ok (y, .c) (r1.set i (some (.l (xs.eraseIdx j), .t)))
            | none => .no
          | none => .no
        else .no
      | _ => .no
    | .ok _ _ => .no
    | .ex c fs r1 => .ex c fs r1
    | .no => .no
  else .no
theorem seqI_lt {k : Int} {n j : Nat} (h : seqIndex? k n = some j) (hn : n ≤ LIM) : -(2 ^ 63) ≤ k ∧ k < 2 ^ 63 := by
  have : LIM = 1000000 := rfl
  unfold seqIndex? at h
  rcases Int.lt_or_le k 0 with hk | hk
  · simp only [hk, if_true] at h
    split at h
    · rename_i hc
      simp only [Bool.and_eq_true, decide_eq_true_eq] at hc
      omega
    · cases h
  · have hk' : ¬ k < 0 := by omega
    simp only [hk', if_false] at h
    split at h
    · rename_i hc
      simp only [Bool.and_eq_true, decide_eq_true_eq] at hc
      omega
    · cases h
theorem CoL.erase {K : PySem.W.Frag} {M : Addr → Prop} {H : Hp} : ∀ {us : List V} {xs : List Dt} {j : Nat}, CoL K M H us xs → CoL K M H (us.eraseIdx j) (xs.eraseIdx j)
  | _, _, _, .nil => .nil
  | _, _, 0, .cons _ q => q
  | _, _, j + 1, .cons h q => .cons h (CoL.erase q)
theorem je_pop {o a : Expr} {f : Ev → Ou Vl} {ap cp : Pos} (i : Nat) (ho : PE X o (tVar i)) (ha : JE X cl W a f) (hbase : attributeBase o "pop" X.env (eval o X.env) = eval o X.env := by rfl)
    (hfew : ((backTo cp (starEach [a] X.env)).all (fun x => !x.1) && (backToKw cp (keywordEach [] X.env)).all (fun x => x.1.isSome) && decide (([a] : List Expr).length + ([] : List Keyword).length + (if ([] : List Keyword).isEmpty then 0 else 1) < 30)) = true := by rfl)
    (hline : (ap.endLine == cp.line) = true := by rfl) (hs : starEach [a] X.env = (false, eval a X.env) :: starEach [] X.env := by rfl) (hplain : (backTo cp (starEach [] X.env)).any (·.1) = false := by rfl) :
    JE X cl W (.Call (.Attribute o "pop" ap) [a] [] cp) (mPop i f) := fun tk =>
  (pe_bm PySem.F.plainAttrs_list PySem.F.slot_list_pop PySem.F.type_list_pop mt_popAt ho (pa_cons (ha tk) pa_nil hs) hbase hfew hline hs hplain).yimp fun σ H Q ⟨r, M, G, e, q⟩ => by
    simp only [mPop] at q
    by_cases hL : isL i r = true
    case neg => rw [if_neg hL] at q; exact q.elim
    rw [if_pos hL] at q
    obtain ⟨a0, us0, hv0, hh0⟩ := e.isL' hL
    refine ⟨.ref a0, hv0, ty_list hh0, r, M, G, e, ?_⟩
    cases hf : f r with
    | no => rw [hf] at q; exact q
    | ex c fs r1 => rw [hf] at q; exact q
    | ok xm r1 =>
      obtain ⟨x, m⟩ := xm
      rw [hf] at q
      intro w H' M' G' F p
      have hx : ∃ k0 xs j y, x = .i k0 ∧ r1[i]? = some (some (.l xs, .t)) ∧ xs.length ≤ LIM ∧ seqIndex? k0 xs.length = some j ∧ xs[j]? = some y := by
        cases x with
        | i k0 =>
          simp only at q
          cases hr : r1[i]? with
          | none => rw [hr] at q; exact q.elim
          | some o =>
            cases o with
            | none => rw [hr] at q; exact q.elim
            | some ym =>
              obtain ⟨y, ym⟩ := ym
              rw [hr] at q
              cases y with
              | l xs =>
                cases ym with
                | t =>
                  simp only at q
                  by_cases hc : xs.length ≤ LIM
                  case neg => rw [if_neg hc] at q; exact q.elim
                  rw [if_pos hc] at q
                  cases hj : seqIndex? k0 xs.length with
                  | none => rw [hj] at q; exact q.elim
                  | some j =>
                    rw [hj] at q
                    simp only at q
                    cases hy : xs[j]? with
                    | none => rw [hy] at q; exact q.elim
                    | some y => exact ⟨k0, xs, j, y, rfl, rfl, hc, hj, hy⟩
                | _ => exact q.elim
              | _ => exact q.elim
        | _ => exact q.elim
      obtain ⟨k0, xs, j, y, rfl, hr, hc, hj, hy⟩ := hx
      simp only [hr, hc, hj, hy, if_true] at q
      obtain ⟨M2, p2⟩ := p.cold e.hot
      have hw := p2.rp.1.int
      subst hw
      obtain ⟨a, us, h2, h3, c0, aG, e3⟩ := own_go p2.er hr hv0
      cases h2
      obtain ⟨v, hv, cv⟩ := c0.get hy
      obtain ⟨b1, b2⟩ := seqI_lt hj hc
      refine ⟨a0, us, k0, j, v, rfl, rfl, h3, b1, b2, by rw [c0.len]; exact hj, hv, ?_⟩
      have e4 := e3 (c0.erase (j := j))
      exact q v _ M2 _ [] ⟨e4, ap_evo e p2 (fun b hb => .inl hb) (fun b z => z) (fun b z _ => z) aG, ⟨cv.fm (fm_up p2.er.hot (p2.er.sub i a0 aG) h3), rfl⟩, List.nodup_nil, fun _ z => nomatch z⟩
/-- name.pop() -/
def mPop0 (i : Nat) : Ev → Ou Vl := fun r => match r[i]? with
  | some (some (.l xs, .t)) => match xs[xs.length - 1]? with
    | some y => .ok (y, .c) (r.set i (some (.l xs.dropLast, .t)))
    | none => .no
  | _ => .no
theorem CoL.last {K : PySem.W.Frag} {M : Addr → Prop} {H : Hp} : ∀ {us : List V} {xs : List Dt}, CoL K M H us xs → CoL K M H us.dropLast xs.dropLast
  | _, _, .nil => .nil
  | _, _, .cons _ .nil => .nil
  | _, _, .cons h (.cons h2 q) => .cons h (CoL.last (.cons h2 q))
theorem je_pop0 {o : Expr} {ap cp : Pos} (i : Nat) (ho : PE X o (tVar i)) (hbase : attributeBase o "pop" X.env (eval o X.env) = eval o X.env := by rfl) (hline : (ap.endLine == cp.line) = true := by rfl) :
    JE X cl W (.Call (.Attribute o "pop" ap) [] [] cp) (mPop0 i) := fun tk =>
  (pe_bm0 PySem.F.plainAttrs_list PySem.F.slot_list_pop PySem.F.type_list_pop mt_pop ho hbase hline).yimp fun σ H Q ⟨r, M, G, e, q⟩ => by
    simp only [mPop0] at q
    have hx : ∃ xs y, r[i]? = some (some (.l xs, .t)) ∧ xs[xs.length - 1]? = some y := by
      cases hr : r[i]? with
      | none => rw [hr] at q; exact q.elim
      | some o =>
        cases o with
        | none => rw [hr] at q; exact q.elim
        | some ym =>
          obtain ⟨y, ym⟩ := ym
          rw [hr] at q
          cases y with
          | l xs =>
            cases ym with
            | t =>
              simp only at q
              cases hy : xs[xs.length - 1]? with
              | none => rw [hy] at q; exact q.elim
              | some y => exact ⟨xs, y, rfl, hy⟩
            | _ => exact q.elim
          | _ => exact q.elim
    obtain ⟨xs, y, hr, hy⟩ := hx
    simp only [hr, hy] at q
    obtain ⟨v0, hv0, _⟩ := e.at_ i _ _ hr
    obtain ⟨a, us, h2, h3, c0, aG, e3⟩ := own_go e hr hv0
    subst h2
    obtain ⟨v, hv, cv⟩ := c0.get hy
    refine ⟨.ref a, hv0, ty_list h3, a, us, v, rfl, rfl, h3, by rw [c0.len]; exact hv, ?_⟩
    have p2 : PX X.K r σ H M G .non .n .c H M G [] := ⟨e, .refl, ⟨.n, rfl⟩, List.nodup_nil, fun _ z => nomatch z⟩
    exact q v _ M _ [] ⟨e3 c0.last, ap_evo e p2 (fun b hb => .inl hb) (fun b z => z) (fun b z _ => z) aG, ⟨cv.fm (fm_up e.hot (e.sub i a aG) h3), rfl⟩, List.nodup_nil, fun _ z => nomatch z⟩
/-! ### displays that own what they hold -/
inductive JH (X : Cx) (cl : Str → Addr) (W : WX) : List Expr → List (Ev → Ou Vl) → Prop
  | nil : JH X cl W [] []
  | cons {e : Expr} {es : List Expr} {f : Ev → Ou Vl} {fs : List (Ev → Ou Vl)} : JE X cl W e f → starEach (e :: es) X.env = (false, eval e X.env) :: starEach es X.env → JH X cl W es fs → JH X cl W (e :: es) (f :: fs)
theorem jh_n : JH X cl W [] [] := .nil
theorem jh_c {e : Expr} {es : List Expr} {f : Ev → Ou Vl} {fs : List (Ev → Ou Vl)} (h : JE X cl W e f) (q : JH X cl W es fs) (hs : starEach (e :: es) X.env = (false, eval e X.env) :: starEach es X.env := by rfl) : JH X cl W (e :: es) (f :: fs) := .cons h hs q
theorem JH.ja {es : List Expr} {fs : List (Ev → Ou Vl)} (h : JH X cl W es fs) : JA X cl W es (fs.map .e) := by
  induction h with
  | nil => exact .nil
  | cons h1 h2 _ ih => exact .cons h1 h2 ih
def mLstO (fs : List (Ev → Ou Vl)) : Ev → Ou Vl := fun r => match evH fs r with
  | .ok xs r1 => if xs.length ≤ LIM ∧ xs.all zfl = true then .ok (.l (xs.map (·.1)), .a) r1 else .no
  | .ex c fs r1 => .ex c fs r1
  | .no => .no
theorem HL.toA {K : PySem.W.Frag} {M : Addr → Prop} {H : Hp} : ∀ {vs : List V} {xs : List Vl} {F : List Addr}, HL K M H vs xs F → xs.all zfl = true → HoL K H vs (xs.map (·.1)) F
  | _, _, _, .nil, _ => .nil
  | _, _, _, .cons rp q, h => by
    simp only [List.all_cons, Bool.and_eq_true] at h
    exact .cons (rp.toA h.1) (HL.toA q h.2)
theorem je_lstO {es : List Expr} {fs : List (Ev → Ou Vl)} {pos : Pos} (h : JH X cl W es fs) : JE X cl W (.List es pos) (mLstO fs) := fun tk =>
  (pe_lst (h.ja.pa tk)).yimp fun σ H Q ⟨r, M, G, e, q⟩ => by
    refine tOs_hold fs e ?_
    simp only [mLstO] at q
    cases ha : evH fs r with
    | no => rw [ha] at q; exact q
    | ex c fs r1 => rw [ha] at q; exact q
    | ok xs r1 =>
      rw [ha] at q
      intro vs H1 M1 G1 F p
      simp only at q
      by_cases hc : xs.length ≤ LIM ∧ xs.all zfl = true
      case neg => rw [if_neg hc] at q; exact q.elim
      rw [if_pos hc] at q
      · have hl := p.hl.len
        refine ⟨by rw [hl]; exact lim_size hc.1, fun a hp => ?_⟩
        have nM : ¬ M1 a := fun z => by obtain ⟨zs, y⟩ := p.er.hot a z; rw [hp] at y; cases y
        have nF : a ∉ F := fun z => nM (p.hot a z).1
        have e2 : ER X.K r1 σ G1 (fun b => M1 b ∨ b = a) (upd H1 a (.lst vs)) := p.er.evoF (fun b o h _ => by rw [upd_ne (ne_of_none h hp)]; exact h) (fun b z => z.imp id fun z => by rw [z]; exact hp) (fun j b hb => .inl (p.er.sub j b hb)) fun b z => by
          by_cases y : b = a
          · rw [y]; exact ⟨_, upd_same⟩
          · rw [upd_ne y]
            exact p.er.hot b (z.resolve_right y)
        have hoL := (p.hl.toA hc.2).stay (H' := upd H1 a (.lst vs)) (fun b zs z => by
          rcases z with z | ⟨o, z⟩
          · exact .inl (by rw [upd_ne (ne_of_none z hp)]; exact z)
          · exact .inr ⟨o, by rw [upd_ne (ne_of_none z hp)]; exact z⟩) (fun b o u z => by rw [upd_ne (ne_of_none z hp)]; exact z) fun b hb => upd_ne fun y => nF (y ▸ hb)
        refine q (.ref a) _ (fun b => M1 b ∨ b = a) G1 (a :: F) ⟨e2, ⟨fun b o h hb => ?_, fun b h => ?_, fun b z => ?_, fun b h hb => .inl (p.ev.keep b h hb), p.ev.env, fun b hb => ?_⟩, .l upd_same hoL, List.nodup_cons.mpr ⟨nF, p.nd⟩, fun b hb => ?_⟩
        · have := p.ev.pres b o h hb
          rw [upd_ne (ne_of_none this hp)]; exact this
        · by_cases y : b = a
          · rw [y, upd_same] at h; cases h
          · rw [upd_ne y] at h; exact p.ev.dom b h
        · rcases z with z | z
          · exact p.ev.grow b z
          · exact .inr (p.ev.dom b (by rw [z]; exact hp))
        · rcases List.mem_cons.mp hb with y | hb
          · exact .inr (p.ev.dom b (by rw [y]; exact hp))
          · exact p.ev.res b hb
        · rcases List.mem_cons.mp hb with y | hb
          · exact ⟨.inr y, fun j hj => nM (p.er.sub j a (y ▸ hj))⟩
          · exact ⟨.inl (p.hot b hb).1, (p.hot b hb).2⟩
/-! ### constants of the module -/
theorem je_gs {x : Str} {z : Str} {t : Nat} {pos : Pos} (hg : Gl X x) (hm : X.mg x = some (.str z t)) (hd : (x == ("__debug__" : Str)) = false := by decide) : JE X cl W (.Name x pos) (mK (.s z)) := je_k (pe_glob hg hm (show RelV (.str z) (.str z t) from ⟨t, rfl⟩) hd) fun _ _ => .s z
theorem je_gi {x : Str} {z : Int} {t : Nat} {pos : Pos} (hg : Gl X x) (hm : X.mg x = some (.int z t)) (hd : (x == ("__debug__" : Str)) = false := by decide) : JE X cl W (.Name x pos) (mK (.i z)) := je_k (pe_glob hg hm (show RelV (.int z) (.int z t) from ⟨t, rfl⟩) hd) fun _ _ => .i z
end
end Y
/-! comprehensions with two generators -/
namespace Y
open PySem L2 PyProof.Rows
section
variable {K : PySem.W.Frag} {cl : Str → Addr} {W : WX} {M M' M1 M4 M5 : Addr → Prop} {H H' H1 H4 H5 : Hp} {G G' G1 G4 G5 : Nat → List Addr} {r r' r4 r5 : Ev} {σ σ' σ4 : L2.St}
/-- the list grows by one -/
theorem push_ok {vs : List Nat} {D : Addr} {acc : List Dt} {F F5 : List Addr} {w : V} {y : Dt} {my : Md} (ht : Hotty M1 H1) (newD : H1 D = none) (p4 : PX K r4 σ4 H1 M1 G1 (.ref D) (.l acc) .t H4 M4 G4 F) (q5 : PX K r5 σ4 H4 M4 G4 w y my H5 M5 G5 F5) :
    ∃ us M6 G6, H5 D = some (.lst us) ∧ us.length = acc.length ∧ PX K (wipeE r5 vs) (wipe σ4 vs) H1 M1 G1 (.ref D) (.l (acc ++ [y])) .t (upd H5 D (.lst (us ++ [w]))) M6 G6 F ∧ Fm M4 H4 M6 (upd H5 D (.lst (us ++ [w]))) ∧ ∀ b, upd H5 D (.lst (us ++ [w])) b = none → H4 b = none := by
  obtain ⟨p5, dis⟩ := p4.keeps ht q5.er q5.ev
  have mem : D ∈ F := by
    obtain ⟨a, us, zs, h1, _, h3, _⟩ := p5.rp
    cases h1
    rw [h3]
    exact List.mem_cons_self
  obtain ⟨us, F', hD5, hF, hul, _, ho2⟩ := Acc.at_ (own := false) ⟨p5.rp, mem⟩
  have hDM : M5 D ∧ ∀ j, D ∉ G5 j := p5.hot D mem
  have hDF : D ∉ F5 := dis D mem
  have stay : ∀ b o, H5 b = some o → b ≠ D → upd H5 D (.lst (us ++ [w])) b = some o := fun b o h q => by rw [upd_ne q]; exact h
  have ew5 := q5.er.wipe vs
  have gsub : ∀ j b, b ∈ (fun j => if j ∈ vs then [] else G5 j) j → b ∈ G5 j := fun j b hb => by
    by_cases q : j ∈ vs
    · simp [q] at hb
    · simpa [q] using hb
  have fm6 : Fm M5 H5 (fun b => M5 b ∧ b ∉ F5) (upd H5 D (.lst (us ++ [w]))) := ⟨fun b o h hn => stay b o h fun z => hn (by rw [z]; exact hDM.1), fun b z => .inl z.1, q5.er.hot⟩
  have e6 : ER K (wipeE r5 vs) (wipe σ4 vs) (fun j => if j ∈ vs then [] else G5 j) (fun b => M5 b ∧ b ∉ F5) (upd H5 D (.lst (us ++ [w]))) :=
    ew5.evoF (fun b o h z => stay b o h fun q => by
      rcases z with z | ⟨j, z⟩
      · exact z (by rw [q]; exact hDM.1)
      · exact hDM.2 j (by rw [← q]; exact gsub j b z)) (fun b z => .inl z.1) (fun j b hb => ⟨q5.er.sub j b (gsub j b hb), fun z => (q5.hot b z).2 j (gsub j b hb)⟩) fun b z => by
      by_cases q : b = D
      · rw [q]; exact ⟨_, upd_same⟩
      · rw [upd_ne q]; exact q5.er.hot b z.1
  have v5 : Evo H1 M1 G1 H5 M5 G5 (F ++ F5) := by
    have v6 : Evo H1 M1 G1 H4 M4 G4 [] := ⟨p4.ev.pres, p4.ev.dom, p4.ev.grow, p4.ev.keep, p4.ev.env, fun _ z => nomatch z⟩
    have v7 := v6.trans ht q5.ev
    exact ⟨v7.pres, v7.dom, v7.grow, v7.keep, v7.env, fun b hb => (List.mem_append.mp hb).elim (p5.ev.res b) (v7.res b)⟩
  have dom6 : ∀ b, upd H5 D (.lst (us ++ [w])) b = none → H5 b = none := fun b h => by
    by_cases q : b = D
    · rw [q, upd_same] at h; cases h
    · rw [upd_ne q] at h; exact h
  obtain ⟨c5, hF'⟩ := ho2 rfl
  have cw : Co K (fun b => M5 b ∧ b ∉ F5) H5 w y := q5.rp.cold q5.er.hot (fun b hb z => z.2 hb) fun b z => z.1
  refine ⟨us, _, _, hD5, hul, ⟨e6, ⟨fun b o h hb => stay b o (v5.pres b o h hb) fun q => (by rw [q, newD] at h; cases h), fun b h => v5.dom b (dom6 b h), fun b z => v5.grow b z.1, fun b h hb => ⟨v5.keep b h hb, fun z => ?_⟩, fun j b hb => v5.env j b (gsub j b hb), fun b hb => v5.res b (List.mem_append_left _ hb)⟩, ?_, p5.nd, fun b hb => ⟨⟨(p5.hot b hb).1, dis b hb⟩, fun j hj => (p5.hot b hb).2 j (gsub j b hj)⟩⟩, (p4.er.fm q5.ev).trans q5.ev.dom fm6, fun b h => q5.ev.dom b (dom6 b h)⟩
  · rcases v5.res b (List.mem_append_right _ z) with ⟨j, q⟩ | q
    · exact hb j q
    · obtain ⟨zs, q2⟩ := ht b h
      rw [q2] at q; cases q
  · exact ⟨D, us ++ [w], acc ++ [y], rfl, rfl, by rw [hF, hF'], upd_same, (c5.fm fm6).snoc (cw.fm ⟨fun b o h hn => stay b o h fun q => hn (by rw [q]; exact ⟨hDM.1, hDF⟩), fun b z => .inl z, fun b z => q5.er.hot b z.1⟩)⟩
/-- two generators -/
def lc2L (vs vs1 : List Nat) (t : Vl → Ev → Option Ev) (c : Ev → Ou Bool) (s1 : Ev → Ou (List Dt)) (t1 : Vl → Ev → Option Ev) (c1 : Ev → Ou Bool) (f : Ev → Ou Vl) : List Dt → Ev → List Dt → Ou (List Dt)
  | [], r, acc => .ok acc r
  | x :: xs, r, acc => match t (x, .c) r with
    | none => .no
    | some r1 => match c r1 with
      | .ok false r2 => lc2L vs vs1 t c s1 t1 c1 f xs (wipeE r2 vs) acc
      | .ok true r2 => match s1 r2 with
        | .ok ys r3 => if acc.length + ys.length ≤ LIM then
            match lcL vs1 t1 c1 f false ys (wipeE r3 vs1) acc with
            | .ok acc1 r4 => lc2L vs vs1 t c s1 t1 c1 f xs (wipeE r4 vs) acc1
            | _ => .no
          else .no
        | _ => .no
      | _ => .no
def mLc2 (vs vs1 : List Nat) (s : Ev → Ou (List Dt)) (t : Vl → Ev → Option Ev) (c : Ev → Ou Bool) (s1 : Ev → Ou (List Dt)) (t1 : Vl → Ev → Option Ev) (c1 : Ev → Ou Bool) (f : Ev → Ou Vl) : Ev → Ou Vl := fun r => match s r with
  | .ok xs r1 => match lc2L vs vs1 t c s1 t1 c1 f xs (wipeE r1 vs) [] with
    | .ok ys r2 => .ok (.l ys, .t) (rsE r1 vs r2)
    | _ => .no
  | .ex c fs r1 => .ex c fs r1
  | .no => .no
theorem wipe_sub {σ : L2.St} {vs vs1 : List Nat} (h : ∀ i ∈ vs1, i ∈ vs) : wipe (wipe σ vs1) vs = wipe σ vs := by
  apply List.ext_getElem?
  intro j
  rw [wipe_at, wipe_at, wipe_at]
  by_cases q : j ∈ vs
  · simp [q, wipe_length]
  · have : j ∉ vs1 := fun z => q (h j z)
    simp only [if_neg q, if_neg this]
theorem mLc2_ok {vs vs1 : List Nat} {s s1 : Ev → Ou (List Dt)} {t t1 : Vl → Ev → Option Ev} {c c1 : Ev → Ou Bool} {f : Ev → Ou Vl} {g g1 : TG} {Q : VK} (hg : TgOk K false g t) (hw : TgW g vs) (hg1 : TgOk K false g1 t1) (hw1 : TgW g1 vs1) (hv : ∀ i ∈ vs1, i ∈ vs) (h : tI K cl W (mLc2 vs vs1 s t c s1 t1 c1 f) σ H Q) :
    tLc2 (tII K cl W s) g (tIB K cl W0 c) (tII K cl W0 s1) g1 (tIB K cl W0 c1) (tI K cl W0 f) vs vs1 σ H Q := by
  obtain ⟨r, M, G, e, h⟩ := h
  refine ⟨r, M, G, e, ?_⟩
  simp only [mLc2] at h
  cases hs : s r with
  | no => rw [hs] at h; exact h
  | ex c fs r' => rw [hs] at h; exact h
  | ok xs r1 =>
    rw [hs] at h
    simp only at h
    cases hL : lc2L vs vs1 t c s1 t1 c1 f xs (wipeE r1 vs) [] with
    | no => rw [hL] at h; exact fun _ _ _ _ _ _ _ => h.elim
    | ex c fs r' => rw [hL] at h; exact fun _ _ _ _ _ _ _ => h.elim
    | ok ys r2 =>
    rw [hL] at h
    simp only at h
    intro J H1 M1 G1 e1 v1 so D hD
    have ew := e1.wipe vs
    have vw : Evo H1 M1 G1 H1 M1 (fun i => if i ∈ vs then [] else G1 i) [] := evo_drops vs
    refine ⟨fun i m H' => m = xs.length - i ∧ i ≤ xs.length ∧ ∃ r' M' G' acc F, PX K r' (wipe σ vs) H1 M1 G1 (.ref D) (.l acc) .t H' M' G' F ∧ (∀ j ∈ vs, ∀ x, r'[j]? ≠ some (some x)) ∧ lc2L vs vs1 t c s1 t1 c1 f (xs.drop i) r' acc = .ok ys r2, ⟨xs.length, by simp, Nat.zero_le _, ?_⟩, ?_⟩
    · have p0 : Mk K H1 M1 (.ref D) (.l []) .t (upd H1 D (.lst [])) [D] := mk_lst (K := K) ew.hot hD .nil
      obtain ⟨e', v', nM⟩ := p0.env ew
      exact ⟨_, _, _, [], [D], ⟨e', vw.trans e1.hot v', p0.rp, p0.nd, fun b hb => ⟨.inr hb, fun i hi => nM b hb (ew.sub i b hi)⟩⟩, fun j hj x q => (wipeE_at q).2 hj, by simpa using hL⟩
    · rintro i m H' ⟨rfl, hi, r', M', G', acc, F, p, hn, hl⟩
      have f' := e1.fm p.ev
      by_cases hlt : i < xs.length
      case neg =>
        have he : i = xs.length := by omega
        subst he
        rw [List.drop_length] at hl
        simp only [lc2L, Ou.ok.injEq] at hl
        obtain ⟨rfl, rfl⟩ := hl
        refine .inl ⟨so.stop M' H' f', h _ H' M' G' F ⟨?_, ?_, p.rp, p.nd, p.hot⟩⟩
        · refine ER.restore e1 f' vs hn (p.er.slots (wipe_length σ vs).symm fun j x v h1 h2 => ?_)
          rw [wipe_at] at h2
          by_cases q : j ∈ vs
          · exact absurd h1 (hn j q x)
          · simpa [q] using h2
        · exact v1.trans e.hot p.ev
      refine .inr ⟨so.go i M' H' hlt f', _, fun H2 q => ⟨xs.length - (i + 1), by omega, rfl, hlt, q⟩, fun v H2 y => ?_⟩
      have hx : xs[i]? = some xs[i] := by simp [hlt]
      obtain ⟨hgr, co⟩ := so.yld i xs[i] v M' H' H2 hx f' p.er.hot y
      obtain ⟨e2, v2⟩ := p.er.grown hgr
      obtain ⟨p2, _⟩ := p.keeps e1.hot e2 v2
      rw [List.drop_eq_getElem_cons hlt] at hl
      simp only [lc2L] at hl
      cases hk : t (xs[i], .c) r' with
      | none => rw [hk] at hl; cases hl
      | some r3 =>
      rw [hk] at hl
      simp only at hl
      refine hw v (wipe σ vs) H2 (fun σ3 H3 => ∃ M3 G3, Tx K false r3 (wipe σ vs) σ3 H2 M' G' H3 M3 G3) _ (fun σ3 H3 we ⟨M3, G3, t3⟩ => ?_) (hg.cold e2 co hk fun σ3 H3 M3 G3 t3 => ⟨M3, G3, t3⟩)
      rw [wipe_wipe] at we
      refine ⟨we, r3, M3, G3, t3.er, ?_⟩
      obtain ⟨p3, _⟩ := p2.keeps e1.hot t3.er t3.evo
      cases hc : c r3 with
      | no => rw [hc] at hl; cases hl
      | ex c fs r4 => rw [hc] at hl; cases hl
      | ok k r4 =>
      rw [hc] at hl
      intro H4 M4 G4 e4 v4
      obtain ⟨p4, _⟩ := p3.keeps e1.hot e4 v4
      cases k with
      | false =>
        rw [if_neg Bool.false_ne_true]
        simp only at hl
        have e5 := e4.wipe vs
        rw [we] at e5
        obtain ⟨p5, _⟩ := p4.keeps e1.hot e5 (evo_drops vs)
        exact ⟨_, _, _, acc, F, p5, fun j hj x q => (wipeE_at q).2 hj, hl⟩
      | true =>
        rw [if_pos rfl]
        simp only at hl
        cases hs1 : s1 r4 with
        | no => rw [hs1] at hl; cases hl
        | ex c fs r5 => rw [hs1] at hl; cases hl
        | ok zs r5 =>
        rw [hs1] at hl
        simp only at hl
        by_cases hz : acc.length + zs.length ≤ LIM
        case neg => rw [if_neg hz] at hl; cases hl
        rw [if_pos hz] at hl
        cases hL1 : lcL vs1 t1 c1 f false zs (wipeE r5 vs1) acc with
        | no => rw [hL1] at hl; cases hl
        | ex c fs r6 => rw [hL1] at hl; cases hl
        | ok acc1 r6 =>
        rw [hL1] at hl
        simp only at hl
        refine ⟨r4, M4, G4, e4, ?_⟩
        rw [hs1]
        intro J1 H5 M5 G5 e5 v5 so1
        obtain ⟨p5, _⟩ := p4.keeps e1.hot e5 v5
        have ew5 := e5.wipe vs1
        obtain ⟨p5w, _⟩ := p5.keeps e1.hot ew5 (evo_drops vs1)
        refine ⟨fun j k H' => k = zs.length - j ∧ j ≤ zs.length ∧ ∃ r' M' G' acc' F', PX K r' (wipe σ3 vs1) H1 M1 G1 (.ref D) (.l acc') .t H' M' G' F' ∧ acc'.length ≤ acc.length + j ∧ Fm M5 H5 M' H' ∧ (∀ b, H' b = none → H5 b = none) ∧ lcL vs1 t1 c1 f false (zs.drop j) r' acc' = .ok acc1 r6, ⟨zs.length, by simp, Nat.zero_le _, _, _, _, acc, _, p5w, by omega, ⟨fun _ _ h _ => h, fun _ h => .inl h, e5.hot⟩, fun _ h => h, by simpa using hL1⟩, ?_⟩
        rintro j k H6 ⟨rfl, hj, r7, M7, G7, acc7, F7, p7, ha7, fm7, dm7, hl7⟩
        by_cases hlt1 : j < zs.length
        case neg =>
          have he : j = zs.length := by omega
          subst he
          rw [List.drop_length] at hl7
          simp only [lcL, Ou.ok.injEq] at hl7
          obtain ⟨rfl, rfl⟩ := hl7
          have e8 := p7.er.wipe vs
          rw [wipe_sub hv, we] at e8
          obtain ⟨p8, _⟩ := p7.keeps e1.hot e8 (evo_drops vs)
          exact .inl ⟨so1.stop M7 H6 fm7, _, _, _, acc7, F7, p8, fun j hj x q => (wipeE_at q).2 hj, hl⟩
        refine .inr ⟨so1.go j M7 H6 hlt1 fm7, _, fun H' q => ⟨zs.length - (j + 1), by omega, rfl, hlt1, q⟩, fun v1 H8 y1 => ?_⟩
        have hz1 : zs[j]? = some zs[j] := by simp [hlt1]
        obtain ⟨hgr1, co1⟩ := so1.yld j zs[j] v1 M7 H6 H8 hz1 fm7 p7.er.hot y1
        obtain ⟨e8, v8⟩ := p7.er.grown hgr1
        obtain ⟨p8, _⟩ := p7.keeps e1.hot e8 v8
        have fm8 : Fm M5 H5 M7 H8 := fm7.trans dm7 (p7.er.fm v8)
        have dm8 : ∀ b, H8 b = none → H5 b = none := fun b h => dm7 b (v8.dom b h)
        rw [List.drop_eq_getElem_cons hlt1] at hl7
        simp only [lcL] at hl7
        cases hk1 : t1 (zs[j], .c) r7 with
        | none => rw [hk1] at hl7; cases hl7
        | some r9 =>
        rw [hk1] at hl7
        simp only at hl7
        refine hw1 v1 (wipe σ3 vs1) H8 (fun σ9 H9 => ∃ M9 G9, Tx K false r9 (wipe σ3 vs1) σ9 H8 M7 G7 H9 M9 G9) _ (fun σ9 H9 we1 ⟨M9, G9, t9⟩ => ?_) (hg1.cold e8 co1 hk1 fun σ9 H9 M9 G9 t9 => ⟨M9, G9, t9⟩)
        rw [wipe_wipe] at we1
        refine ⟨we1, r9, M9, G9, t9.er, ?_⟩
        obtain ⟨p9, _⟩ := p8.keeps e1.hot t9.er t9.evo
        have fm9 : Fm M5 H5 M9 H9 := fm8.trans dm8 (e8.fm t9.evo)
        have dm9 : ∀ b, H9 b = none → H5 b = none := fun b h => dm8 b (t9.evo.dom b h)
        cases hc1 : c1 r9 with
        | no => rw [hc1] at hl7; cases hl7
        | ex c fs r10 => rw [hc1] at hl7; cases hl7
        | ok k r10 =>
        rw [hc1] at hl7
        intro H10 M10 G10 e10 v10
        obtain ⟨p10, _⟩ := p9.keeps e1.hot e10 v10
        have fm10 : Fm M5 H5 M10 H10 := fm9.trans dm9 (t9.er.fm v10)
        have dm10 : ∀ b, H10 b = none → H5 b = none := fun b h => dm9 b (v10.dom b h)
        cases k with
        | false =>
          rw [if_neg Bool.false_ne_true]
          simp only at hl7
          have e11 := e10.wipe vs1
          rw [we1] at e11
          obtain ⟨p11, _⟩ := p10.keeps e1.hot e11 (evo_drops vs1)
          exact ⟨_, _, _, acc7, F7, p11, by omega, fm10, dm10, hl7⟩
        | true =>
          rw [if_pos rfl]
          simp only at hl7
          refine ⟨r10, M10, G10, e10, ?_⟩
          cases hf : f r10 with
          | no => rw [hf] at hl7; cases hl7
          | ex c fs r11 => rw [hf] at hl7; cases hl7
          | ok ym r11 =>
          obtain ⟨y, my⟩ := ym
          rw [hf] at hl7
          simp only [Bool.false_and, Bool.false_eq_true, if_false] at hl7
          intro w H11 M11 G11 F11 q11
          obtain ⟨us, M12, G12, hD12, hul, p12, fm12, dm12⟩ := push_ok (vs := vs1) e1.hot hD p10 q11
          rw [we1] at p12
          exact ⟨us, hD12, by rw [hul]; exact Nat.lt_of_lt_of_le (by omega) (lim_size hz), _, M12, G12, acc7 ++ [y], F7, p12, by simp; omega, fm10.trans dm10 fm12, fun b h => dm10 b (dm12 b h), hl7⟩
end
section
variable {X : Cx} {cl : Str → Addr} {W : WX} {io : Bool}
theorem je_lc2 {elt tg iter tg1 iter1 : Expr} {ifs ifs1 : List Expr} {scope : Scope} {own : List (Str × Nat)} {vs1 : List Nat} {pos : Pos} {s s1 : Ev → Ou (List Dt)} {g g1 : TG} {t t1 : Vl → Ev → Option Ev} {c c1 : Ev → Ou Bool} {f : Ev → Ou Vl} (hc : X.calm = true) (hN : X.N.Nodup) (hi : JI X cl W tg iter s) (ok : BlkOk X.N X.env.scope scope own) (hv : ∀ i ∈ vs1, i ∈ own.map (·.2))
    (hg : ∀ (s : Shared) (H : Hp) (C : Addr) (cl : List (Str × Addr)) (fp : List Addr), PG (X.blk s H scope (compEnvC scope cl C X.env) fp) tg g) (hgt : TgOk X.K false g t) (hgw : TgW g (own.map (·.2)))
    (ht : ∀ (s : Shared) (H : Hp) (C : Addr) (cl2 : List (Str × Addr)) (fp : List Addr), PTs (X.blk s H scope (compEnvC scope cl2 C X.env) fp) ifs (tIB X.K cl W0 c))
    (hi1 : ∀ (s : Shared) (H : Hp) (C : Addr) (cl2 : List (Str × Addr)) (fp : List Addr), JI (X.blk s H scope (compEnvC scope cl2 C X.env) fp) cl W0 tg1 iter1 s1)
    (hg1 : ∀ (s : Shared) (H : Hp) (C : Addr) (cl : List (Str × Addr)) (fp : List Addr), PG (X.blk s H scope (compEnvC scope cl C X.env) fp) tg1 g1) (hg1t : TgOk X.K false g1 t1) (hg1w : TgW g1 vs1)
    (ht1 : ∀ (s : Shared) (H : Hp) (C : Addr) (cl2 : List (Str × Addr)) (fp : List Addr), PTs (X.blk s H scope (compEnvC scope cl2 C X.env) fp) ifs1 (tIB X.K cl W0 c1))
    (he : ∀ (s : Shared) (H : Hp) (C : Addr) (cl2 : List (Str × Addr)) (fp : List Addr), JE (X.blk s H scope (compEnvC scope cl2 C X.env) fp) cl W0 elt f) (hs : ∀ x, foldedSetIterable iter X.env x = pure x := by intro _; rfl) (hs1 : ∀ env x, foldedSetIterable iter1 env x = pure x := by intro _ _; rfl) :
    JE X cl W (.ListComp elt [⟨tg, iter, ifs, 0⟩, ⟨tg1, iter1, ifs1, 0⟩] scope pos) (mLc2 (own.map (·.2)) vs1 s t c s1 t1 c1 f) := fun tk =>
  (pe_lc2 hc hN (hi tk) ok hv hg ht (fun s H C cl2 fp => hi1 s H C cl2 fp takes0) hg1 ht1 (fun s H C cl2 fp => he s H C cl2 fp takes0) hs hs1).yimp fun σ H Q q => mLc2_ok hgt hgw hg1t hg1w hv q
theorem js_setLc2 {elt tg iter tg1 iter1 : Expr} {ifs ifs1 : List Expr} {scope : Scope} {own : List (Str × Nat)} {vs1 : List Nat} {pos spos : Pos} {i : Nat} {y : Str} {py : Pos} {s s1 : Ev → Ou (List Dt)} {g g1 : TG} {t t1 : Vl → Ev → Option Ev} {c c1 : Ev → Ou Bool} {f : Ev → Ou Vl} (hc : X.calm = true) (hN : X.N.Nodup) (hy : X.N[i]? = some y) (hyl : X.env.scope.names.lookup y = some .local)
    (hsw : swapsWith (.ListComp elt [⟨tg, iter, ifs, 0⟩, ⟨tg1, iter1, ifs1, 0⟩] scope pos) (some (.Name y py)) spos.line X.env = pure true) (hio : io = true → i ≠ 0) (hi : JI X cl W tg iter s) (ok : BlkOk X.N X.env.scope scope own) (hv : ∀ i ∈ vs1, i ∈ own.map (·.2))
    (hg : ∀ (s : Shared) (H : Hp) (C : Addr) (cl : List (Str × Addr)) (fp : List Addr), PG (X.blk s H scope (compEnvC scope cl C X.env) fp) tg g) (hgt : TgOk X.K false g t) (hgw : TgW g (own.map (·.2)))
    (ht : ∀ (s : Shared) (H : Hp) (C : Addr) (cl2 : List (Str × Addr)) (fp : List Addr), PTs (X.blk s H scope (compEnvC scope cl2 C X.env) fp) ifs (tIB X.K cl W0 c))
    (hi1 : ∀ (s : Shared) (H : Hp) (C : Addr) (cl2 : List (Str × Addr)) (fp : List Addr), JI (X.blk s H scope (compEnvC scope cl2 C X.env) fp) cl W0 tg1 iter1 s1)
    (hg1 : ∀ (s : Shared) (H : Hp) (C : Addr) (cl : List (Str × Addr)) (fp : List Addr), PG (X.blk s H scope (compEnvC scope cl C X.env) fp) tg1 g1) (hg1t : TgOk X.K false g1 t1) (hg1w : TgW g1 vs1)
    (ht1 : ∀ (s : Shared) (H : Hp) (C : Addr) (cl2 : List (Str × Addr)) (fp : List Addr), PTs (X.blk s H scope (compEnvC scope cl2 C X.env) fp) ifs1 (tIB X.K cl W0 c1))
    (he : ∀ (s : Shared) (H : Hp) (C : Addr) (cl2 : List (Str × Addr)) (fp : List Addr), JE (X.blk s H scope (compEnvC scope cl2 C X.env) fp) cl W0 elt f) (hs : ∀ x, foldedSetIterable iter X.env x = pure x := by intro _; rfl) (hs1 : ∀ env x, foldedSetIterable iter1 env x = pure x := by intro _ _; rfl) :
    JS X cl W io (.Assign [.Name y py] (.ListComp elt [⟨tg, iter, ifs, 0⟩, ⟨tg1, iter1, ifs1, 0⟩] scope pos) spos) (sAsg (mLc2 (own.map (·.2)) vs1 s t c s1 t1 c1 f) (tgV i)) := fun tk =>
  (ps_setLc2 hc hN hy hyl hsw (hi tk) ok hv hg ht (fun s H C cl2 fp => hi1 s H C cl2 fp takes0) hg1 ht1 (fun s H C cl2 fp => he s H C cl2 fp takes0) hs hs1).yimp fun D σ H q => asg_go (g := gName i) (tg_name hio) q |> fun z => mLc2_ok hgt hgw hg1t hg1w hv z
end
end Y
/-! Y, part L: a variable lent to an expression: what it owns is its own again where the answer and all else are flat. -/
namespace Y
open PySem L2
def flS : Option Vl → Bool
  | some xm => zfl xm
  | none => true
/-- all slots but the i-th are flat, the i-th a cold list of flat things -/
def okE : Nat → Ev → Bool
  | _, [] => false
  | 0, o :: r => (match o with
    | some (.l ys, .c) => flatL ys
    | _ => false) && r.all flS
  | i + 1, o :: r => flS o && okE i r
def ownE : Nat → Ev → Ev
  | _, [] => []
  | 0, o :: r => (match o with
    | some (.l ys, .c) => some (.l ys, .t)
    | _ => o) :: r
  | i + 1, o :: r => o :: ownE i r
def mLend (i : Nat) (f : Ev → Ou Vl) : Ev → Ou Vl := fun r => match r[i]? with
  | some (some (.l xs, .t)) => match f (r.set i (some (.l xs, .c))) with
    | .ok xm r' => if zfl xm && okE i r' then .ok xm (ownE i r') else .ok xm r'
    | .ex c fs r' => .ex c fs r'
    | .no => .no
  | _ => f r
theorem okE_at : ∀ {i : Nat} {r : Ev}, okE i r = true → (∃ ys, r[i]? = some (some (.l ys, .c)) ∧ flatL ys = true ∧ ownE i r = r.set i (some (.l ys, .t))) ∧ ∀ j xm, j ≠ i → r[j]? = some (some xm) → zfl xm = true
  | _, [], h => by simp [okE] at h
  | 0, o :: r, h => by
    simp only [okE, Bool.and_eq_true] at h
    refine ⟨?_, fun j xm hj hx => ?_⟩
    · have h1 := h.1
      split at h1
      · rename_i ys
        exact ⟨ys, rfl, h1, rfl⟩
      · cases h1
    · cases j with
      | zero => exact absurd rfl hj
      | succ j =>
        have := List.all_eq_true.mp h.2 (some xm) (List.mem_of_getElem? (by simpa using hx))
        exact this
  | i + 1, o :: r, h => by
    simp only [okE, Bool.and_eq_true] at h
    obtain ⟨⟨ys, h1, h2, h3⟩, h4⟩ := okE_at h.2
    refine ⟨⟨ys, by simpa using h1, h2, by simp [ownE, h3]⟩, fun j xm hj hx => ?_⟩
    cases j with
    | zero =>
      simp only [List.getElem?_cons_zero, Option.some.injEq] at hx
      subst hx
      exact h.1
    | succ j => exact h4 j xm (by omega) (by simpa using hx)
section
variable {X : Cx} {cl : Str → Addr} {W : WX} {K : PySem.W.Frag} {σ : L2.St} {H : Hp}
/-- flat data stay cold, whatever may change -/
theorem Rp.flatM {M M' : Addr → Prop} {m : Md} {v : V} {x : Dt} {F : List Addr} (h : Rp K M H m v x F) (z : Y.zfl (x, m) = true) : Rp K M' H m v x F := by
  cases m with
  | c =>
    have hh := h.1.ho (by simpa [Y.zfl] using z)
    exact ⟨hh.cold (fun b hb => nomatch hb), h.2⟩
  | t =>
    obtain ⟨a, vs, xs, rfl, rfl, rfl, e, c⟩ := h
    have hh := c.ho (by simpa [Y.zfl] using z)
    exact ⟨a, vs, xs, rfl, rfl, rfl, e, hh.cold (fun b hb => nomatch hb)⟩
  | a => exact h
theorem tI_lend {i : Nat} {f : Ev → Ou Vl} {Q : VK} (h : tI K cl W (mLend i f) σ H Q) : tI K cl W f σ H Q := by
  obtain ⟨r, M, G, e, q⟩ := h
  by_cases hr : ∃ xs, r[i]? = some (some (.l xs, .t))
  · obtain ⟨xs, hr⟩ := hr
    simp only [mLend, hr] at q
    obtain ⟨v, hv, rp⟩ := e.at_ i _ _ hr
    obtain ⟨a, vs, xs', rfl, hx, hG, ha, hc⟩ := rp
    cases hx
    have e1 := e.give hr
    have iv : i < σ.length := (List.getElem?_eq_some_iff.mp hv).1
    have v2 : Evo H M G H (fun b => M b ∧ b ∉ G i) (fun j => if j = i then [] else G j) [] := ⟨fun _ _ h _ => h, fun _ h => h, fun b z => .inl z.1, fun b h hb => ⟨h, hb i⟩, fun j b hb => .inl ⟨j, by
      by_cases q : j = i
      · simp [q] at hb
      · simpa [q] using hb⟩, fun _ h => nomatch h⟩
    have nG : ∀ j, a ∉ (fun j => if j = i then [] else G j) j := fun j hb => by
      by_cases c : j = i
      · simp [c] at hb
      · simp only [if_neg c] at hb
        exact e.dj j i c a hb (by rw [hG]; simp)
    refine ⟨r.set i (some (.l xs, .c)), _, _, e1, ?_⟩
    cases hf : f (r.set i (some (.l xs, .c))) with
    | no => rw [hf] at q; exact q
    | ex c fs r' =>
      rw [hf] at q
      exact fun d H' M' G' p => q d H' M' G' ⟨p.er, v2.trans e.hot p.ev, p.xd⟩
    | ok xm r' =>
      obtain ⟨x, m⟩ := xm
      rw [hf] at q
      simp only at q
      intro w H' M' G' F p
      by_cases hz : (zfl (x, m) && okE i r') = true
      · rw [if_pos hz] at q
        simp only [Bool.and_eq_true] at hz
        obtain ⟨⟨ys, h1, h2, h3⟩, h4⟩ := okE_at hz.2
        rw [h3] at q
        obtain ⟨v', hv', rp'⟩ := p.er.at_ i _ _ h1
        rw [hv] at hv'
        cases hv'
        have ha' : H' a = some (.lst vs) := p.ev.pres a _ ha nG
        have nG' : ∀ j, a ∉ G' j := fun j hb => by
          rcases p.ev.env j a hb with ⟨l, z⟩ | z
          · exact nG l z
          · rw [ha] at z; cases z
        have nF : a ∉ F := fun hb => by
          rcases p.ev.res a hb with ⟨l, z⟩ | z
          · exact nG l z
          · rw [ha] at z; cases z
        have li : i < r'.length := (List.getElem?_eq_some_iff.mp h1).1
        refine q w H' (fun b => M' b ∨ b = a) (fun j => if j = i then [a] else G' j) F ⟨⟨by simp [p.er.len], fun j y n hj => ?_, fun j hj => ?_, fun j => ?_, fun j l hne b hb => ?_, fun j b hb => ?_, fun b z => ?_⟩, ⟨fun b o hb hn => ?_, p.ev.dom, fun b z => ?_, fun b hb hn => ?_, fun j b hb => ?_, fun b hb => ?_⟩, p.rp.flatM hz.1, p.nd, fun b hb => ⟨.inl (p.hot b hb).1, fun j hj => ?_⟩⟩
        · by_cases c : j = i
          · subst c
            rw [List.getElem?_set_self li] at hj
            cases hj
            refine ⟨.ref a, hv, ?_⟩
            rw [if_pos rfl]
            cases rp'.1 with
            | l g1 g2 g3 =>
              rw [ha'] at g1
              cases g1
              exact ⟨a, _, ys, rfl, rfl, rfl, ha', (g3.ho h2).cold fun b hb => nomatch hb⟩
          · rw [List.getElem?_set_ne (Ne.symm c)] at hj
            obtain ⟨u, g1, g2⟩ := p.er.at_ j y n hj
            refine ⟨u, g1, ?_⟩
            rw [if_neg c]
            exact g2.flatM (h4 j _ c hj)
        · by_cases c : j = i
          · subst c
            exact absurd (List.getElem?_set_self li) (hj (.l ys) .t)
          · rw [if_neg c]
            exact p.er.emp j fun y n z => hj y n (by rw [List.getElem?_set_ne (Ne.symm c)]; exact z)
        · by_cases c : j = i
          · simp [c]
          · simpa [c] using p.er.nd j
        · by_cases c : j = i
          · subst c
            simp only [if_true, List.mem_singleton] at hb
            subst hb
            rw [if_neg (Ne.symm hne)]
            exact nG' l
          · rw [if_neg c] at hb
            by_cases c2 : l = i
            · rw [if_pos c2, List.mem_singleton]
              exact fun z => nG' j (by rw [← z]; exact hb)
            · rw [if_neg c2]
              exact p.er.dj j l hne b hb
        · by_cases c : j = i
          · rw [if_pos c, List.mem_singleton] at hb
            exact .inr hb
          · rw [if_neg c] at hb
            exact .inl (p.er.sub j b hb)
        · rcases z with z | z
          · exact p.er.hot b z
          · exact ⟨vs, by rw [z]; exact ha'⟩
        · exact p.ev.pres b o hb fun j hj => by
            by_cases c : j = i
            · simp [c] at hj
            · simp only [if_neg c] at hj
              exact hn j hj
        · rcases z with z | z
          · rcases p.ev.grow b z with z | z
            · exact .inl z.1
            · exact .inr z
          · exact .inl (by rw [z]; exact e.sub i a (by rw [hG]; simp))
        · exact .inl (p.ev.keep b ⟨hb, hn i⟩ fun j hj => by
            by_cases c : j = i
            · simp [c] at hj
            · simp only [if_neg c] at hj
              exact hn j hj)
        · by_cases c : j = i
          · rw [if_pos c, List.mem_singleton] at hb
            exact .inl ⟨i, by rw [hG, hb]; simp⟩
          · rw [if_neg c] at hb
            rcases p.ev.env j b hb with ⟨l, z⟩ | z
            · by_cases c2 : l = i
              · simp [c2] at z
              · simp only [if_neg c2] at z
                exact .inl ⟨l, z⟩
            · exact .inr z
        · rcases p.ev.res b hb with ⟨l, z⟩ | z
          · by_cases c2 : l = i
            · simp [c2] at z
            · simp only [if_neg c2] at z
              exact .inl ⟨l, z⟩
          · exact .inr z
        · by_cases c : j = i
          · rw [if_pos c, List.mem_singleton] at hj
            exact nF (by rw [← hj]; exact hb)
          · rw [if_neg c] at hj
            exact (p.hot b hb).2 j hj
      · rw [if_neg hz] at q
        exact q w H' M' G' F ⟨p.er, v2.trans e.hot p.ev, p.rp, p.nd, p.hot⟩
  · refine ⟨r, M, G, e, ?_⟩
    have : mLend i f r = f r := by
      unfold mLend
      split
      · rename_i xs h
        exact absurd ⟨xs, h⟩ hr
      · rfl
    rw [this] at q
    exact q
theorem je_lend {e : Expr} {f : Ev → Ou Vl} (i : Nat) (h : JE X cl W e f) : JE X cl W e (mLend i f) := fun tk => (h tk).yimp fun _ _ _ q => tI_lend q
end
end Y
/-! Y, part Z: plain laws of the mirrors. -/
namespace Y
open PySem L2 PyProof.Rows
/-- a loop that goes on to its end -/
theorem forL_inv {t : Vl → Ev → Option Ev} {body : Ev → So} (P : Nat → Ev → Prop) : ∀ (xs : List Dt) (k : Nat) (r : Ev), P k r →
    (∀ i x r, xs[i]? = some x → P (k + i) r → ∃ r1 r2, t (x, .c) r = some r1 ∧ (body r1 = .nx r2 ∨ body r1 = .ct r2) ∧ P (k + i + 1) r2) → ∃ r', forL t body xs r = .nx r' ∧ P (k + xs.length) r'
  | [], k, r, h, _ => ⟨r, rfl, h⟩
  | x :: xs, k, r, h, st => by
    obtain ⟨r1, r2, h1, h2, h3⟩ := st 0 x r rfl h
    obtain ⟨r', h4, h5⟩ := forL_inv P xs (k + 1) r2 h3 fun i y s hy hp => by
      have := st (i + 1) y s (by simpa using hy) (by rw [show k + (i + 1) = k + 1 + i by omega]; exact hp)
      rw [show k + (i + 1) + 1 = k + 1 + i + 1 by omega] at this
      exact this
    refine ⟨r', ?_, by rw [List.length_cons, show k + (xs.length + 1) = k + 1 + xs.length by omega]; exact h5⟩
    simp only [forL, h1]
    rcases h2 with h2 | h2 <;> simp only [h2] <;> exact h4
/-- a comprehension whose items are told one by one -/
theorem lcL_map {vs : List Nat} {t : Vl → Ev → Option Ev} {c : Ev → Ou Bool} {f : Ev → Ou Vl} {own : Bool} {r : Ev} (g : Dt → Dt) (m : Md) : ∀ (xs : List Dt) (acc : List Dt),
    (∀ x ∈ xs, ∃ r1 r2 r3, t (x, .c) r = some r1 ∧ c r1 = .ok true r2 ∧ f r2 = .ok (g x, m) r3 ∧ wipeE r3 vs = r ∧ (own && !zfl (g x, m)) = false) → lcL vs t c f own xs r acc = .ok (acc ++ xs.map g) r
  | [], acc, _ => by simp [lcL]
  | x :: xs, acc, h => by
    obtain ⟨r1, r2, r3, h1, h2, h3, h4, h5⟩ := h x List.mem_cons_self
    simp only [lcL, h1, h2, h3, h5, h4]
    rw [if_neg (by simp)]
    rw [lcL_map g m xs (acc ++ [g x]) fun y hy => h y (List.mem_cons_of_mem _ hy)]
    simp
/-- .. with a state that goes on -/
theorem lcL_inv {vs : List Nat} {t : Vl → Ev → Option Ev} {c : Ev → Ou Bool} {f : Ev → Ou Vl} {own : Bool} (P : Nat → Ev → List Dt → Prop) : ∀ (xs : List Dt) (k : Nat) (r : Ev) (acc : List Dt), P k r acc →
    (∀ i x r acc, xs[i]? = some x → P (k + i) r acc → ∃ r1, t (x, .c) r = some r1 ∧ ((∃ r2, c r1 = .ok false r2 ∧ P (k + i + 1) (wipeE r2 vs) acc) ∨ ∃ r2 y m r3, c r1 = .ok true r2 ∧ f r2 = .ok (y, m) r3 ∧ (own && !zfl (y, m)) = false ∧ P (k + i + 1) (wipeE r3 vs) (acc ++ [y]))) →
    ∃ r' ys, lcL vs t c f own xs r acc = .ok ys r' ∧ P (k + xs.length) r' ys
  | [], k, r, acc, h, _ => ⟨r, acc, rfl, h⟩
  | x :: xs, k, r, acc, h, st => by
    obtain ⟨r1, h1, h2⟩ := st 0 x r acc rfl h
    have nx : ∀ {r2 acc2}, P (k + 0 + 1) r2 acc2 → ∃ r' ys, lcL vs t c f own xs r2 acc2 = .ok ys r' ∧ P (k + (x :: xs).length) r' ys := fun {r2 acc2} hp => by
      obtain ⟨r', ys, h4, h5⟩ := lcL_inv P xs (k + 1) r2 acc2 hp fun i y s a hy hq => by
        have := st (i + 1) y s a (by simpa using hy) (by rw [show k + (i + 1) = k + 1 + i by omega]; exact hq)
        rw [show k + (i + 1) + 1 = k + 1 + i + 1 by omega] at this
        exact this
      exact ⟨r', ys, h4, by rw [List.length_cons, show k + (xs.length + 1) = k + 1 + xs.length by omega]; exact h5⟩
    rcases h2 with ⟨r2, h2, hp⟩ | ⟨r2, y, m, r3, h2, h3, h5, hp⟩
    · obtain ⟨r', ys, q, w⟩ := nx hp
      exact ⟨r', ys, by simp only [lcL, h1, h2]; exact q, w⟩
    · obtain ⟨r', ys, q, w⟩ := nx hp
      refine ⟨r', ys, ?_, w⟩
      simp only [lcL, h1, h2, h3, h5]
      rw [if_neg (by simp)]
      exact q
theorem rngD_at {lo : Int} {n i : Nat} {x : Dt} (h : (rngD lo n)[i]? = some x) : x = .i (lo + i) ∧ i < n := by
  simp only [rngD, List.getElem?_map, Option.map_eq_some_iff] at h
  obtain ⟨j, hj, rfl⟩ := h
  obtain ⟨h1, h2⟩ := List.getElem?_eq_some_iff.mp hj
  simp at h1 h2
  subst h2
  exact ⟨rfl, h1⟩
theorem rngD_len {lo : Int} {n : Nat} : (rngD lo n).length = n := by simp [rngD]
/-- data that can be told equal -/
def pl : Nat → Dt → Bool
  | 0, _ => false
  | d + 1, .t xs => decide (xs.length ≤ LIM) && xs.all (pl d)
  | d + 1, .l xs => decide (xs.length ≤ LIM) && xs.all (pl d)
  | _ + 1, .n => true
  | _ + 1, .b _ => true
  | _ + 1, .i _ => true
  | _ + 1, .s z => PyData.strOk z
  | _ + 1, _ => false
theorem wipe_nil (r : Ev) : wipeE r [] = r := rfl
theorem flat_i (ns : List Int) : flatL (ns.map .i) = true := by
  induction ns with
  | nil => rfl
  | cons n ns ih => simp [flatL, Dt.flat, ih]
theorem shp_i (a : Int) : shp (.i a) = true := by simp [shp, toP, SeqAt.shaped, PyData.canLay0, PyData.depth]
theorem shp_b (a : Bool) : shp (.b a) = true := by simp [shp, toP, SeqAt.shaped, PyData.canLay0, PyData.depth]
theorem shp_s {a : Str} (h : PyData.strOk a = true) : shp (.s a) = true := by simp [shp, toP, SeqAt.shaped, PyData.canLay0, PyData.depth, h]
theorem beq_dec {α : Type} [BEq α] [LawfulBEq α] [DecidableEq α] (a b : α) : (a == b) = decide (a = b) := by by_cases h : a = b <;> simp [h]
theorem shp_n : shp .n = true := by simp [shp, toP, SeqAt.shaped, PyData.canLay0, PyData.depth]
theorem eqD_i (a b : Int) : eqD (.i a) (.i b) = decide (a = b) := by simp only [eqD, toP, PyData.eqv, beq_dec]
theorem eqD_b (a b : Bool) : eqD (.b a) (.b b) = decide (a = b) := by cases a <;> cases b <;> rfl
theorem eqD_s (a b : Str) : eqD (.s a) (.s b) = decide (a = b) := by simp only [eqD, toP, PyData.eqv, beq_dec]
theorem fEq_i (a b : Int) : fEq [.i a, .i b] = some (.b (decide (a = b)), .c) := by simp [fEq, shp_i, eqD_i]
theorem fEq_b (a b : Bool) : fEq [.b a, .b b] = some (.b (decide (a = b)), .c) := by simp [fEq, shp_b, eqD_b]
theorem fEq_s {a b : Str} (ha : PyData.strOk a = true) (hb : PyData.strOk b = true) : fEq [.s a, .s b] = some (.b (decide (a = b)), .c) := by simp [fEq, shp_s, eqD_s, ha, hb]
theorem fNe_i (a b : Int) : fNe [.i a, .i b] = some (.b (!decide (a = b)), .c) := by simp [fNe, shp_i, eqD_i]
theorem fNe_b (a b : Bool) : fNe [.b a, .b b] = some (.b (!decide (a = b)), .c) := by simp [fNe, shp_b, eqD_b]
theorem fAdd_i (a b : Int) : fAdd [.i a, .i b] = some (.i (a + b), .c) := rfl
theorem fSub_i (a b : Int) : fSub [.i a, .i b] = some (.i (a - b), .c) := rfl
theorem fMul_i (a b : Int) (h : cMul a b = true) : fMul [.i a, .i b] = some (.i (a * b), .c) := by simp [fMul, fMulI, fIC, h]
theorem cMul_l {a b : Int} (h1 : -(2 ^ 64) < a) (h2 : a < 2 ^ 64) : cMul a b = true := by simp [cMul]; left; omega
theorem cMul_r {a b : Int} (h1 : -(2 ^ 64) < b) (h2 : b < 2 ^ 64) : cMul a b = true := by simp [cMul]; right; omega
theorem fMod_i (a b : Int) (h : 0 < b) : fMod [.i a, .i b] = some (.i (a % b), .c) := by simp [fMod, fIC, h]
theorem fDiv_i (a b : Int) (h : 0 < b) (h2 : b < 2 ^ 64) : fDiv [.i a, .i b] = some (.i (a / b), .c) := by
  have : b.natAbs.log2 < 9000 := by
    have h3 : b.natAbs < 2 ^ 64 := by omega
    by_cases h0 : b.natAbs = 0
    · rw [h0]; decide
    · have := (Nat.log2_lt h0).mpr h3
      omega
  simp [fDiv, fIC, h, this]
theorem fPow_i (a b : Int) (h0 : 0 ≤ b) (h1 : b ≤ 1000000) (h2 : a.natAbs < 2 ^ 64) : fPow [.i a, .i b] = some (.i (a ^ b.toNat), .c) := by simp [fPow, fIC, h0, h1, h2]
theorem fGt_i (a b : Int) : fGt [.i a, .i b] = some (.b (decide (b < a)), .c) := rfl
theorem fLt_i (a b : Int) : fLt [.i a, .i b] = some (.b (decide (a < b)), .c) := rfl
theorem fGe_i (a b : Int) : fGe [.i a, .i b] = some (.b (decide (b ≤ a)), .c) := rfl
theorem fLe_i (a b : Int) : fLe [.i a, .i b] = some (.b (decide (a ≤ b)), .c) := rfl
theorem fNeg_i (a : Int) : fNeg [.i a] = some (.i (-a), .c) := rfl
theorem fIx_l (xs : List Dt) (n : Int) : fIx [.l xs, .i n] = (atI xs n).map (·, .c) := rfl
theorem fIx_t (xs : List Dt) (n : Int) : fIx [.t xs, .i n] = (atI xs n).map (·, .c) := rfl
theorem fIx_z (xs : List Dt) (n : Int) : fIx [.z xs, .i n] = (atI xs n).map (·, .c) := rfl
theorem ixN_nat {n k : Nat} (h : k < n) : ixN n (k : Int) = some k := by
  unfold ixN
  rw [if_pos (by omega)]
  simp
  omega
theorem atI_nat {α : Type} (xs : List α) (k : Nat) : atI xs (k : Int) = xs[k]? := by
  unfold atI
  by_cases h : k < xs.length
  · rw [ixN_nat h]; rfl
  · rw [List.getElem?_eq_none (by omega)]
    unfold ixN
    rw [if_pos (by omega)]
    simp [h]
end Y
/-! V, part A: methods of lists that ask: count, index. -/
namespace Y
open PySem L2 PyProof.Rows
section
variable {X : Cx} {K : PySem.W.Frag} {cl : Str → Addr} {W : WX} {σ : L2.St} {H : Hp}
def rCntD (K : PySem.W.Frag) : V → List V → Hp → VK → Prop := fun x xs H Q => ∃ (a : Addr) (y : V) (d : PyData) (ds : List PyData), x = V.ref a ∧ xs = [y] ∧ Dp K H (V.ref a) (.list ds) ∧ Dp K H y d ∧
  SeqAt.shaped (.list ds) = true ∧ SeqAt.shaped d = true ∧ Q (.int ((ds.countP fun z => PyData.eqv z d : Nat) : Int)) H
theorem mt_cntD (hu : X.A.units + 65 < cLine) : MtR X "list.count" (rCntD X.K) := by
  intro pins s σ H x xs v us Q I rx rxs h
  obtain ⟨a, y, d, ds, rfl, rfl, hl, hy, sl, sd, q⟩ := h
  cases rx
  cases rxs with
  | cons ry rt =>
    rename_i uy ut
    cases rt
    obtain ⟨bs, r1⟩ := Dp.reads I d y uy hy ry
    have hxs : PyData.canLayAll0 ds = true := SeqAt.canLay_of_shaped sl
    have hroom : X.A.units + 1 + min (PyData.depthAll ds) d.depth < cLine := room_in_shaped sd hu
    cases hl with
    | lst hs ha =>
      obtain ⟨its, rv, ⟨⟨cls, dd, data, sls⟩, n, ho, hc, hdn, hdt⟩, hlen⟩ := I.list hs
      simp only at hc hdt
      subst hc hdt
      obtain ⟨as, h4⟩ := Dp.readsAll I ds _ its ha rv
      have hmap : its.map (SeqAt.readOf s.heap) = ds := SeqAt.readsAll_map ds its as hxs h4
      have ec : its.toArray.toList.countP (fun u => PyData.eqv (SeqAt.readOf s.heap u) d) = ds.countP fun z => PyData.eqv z d := by
        rw [← hmap, List.countP_map]; rfl
      refine call_meets PySem.F.slot_list_count ⟨_, ho, rfl⟩ PySem.F.entry_list_count (PySem.F.args_list_count_2 _ _)
        (SeqAt.list_countAt a its.toArray n dd sls uy (fun u => PyData.eqv (SeqAt.readOf s.heap u) d)) ⟨ho, SeqAt.items_eqAt (vs := its.toArray) (show ReadsAll s.heap its.toArray.toList ds as from h4) r1 hxs (SeqAt.canLay_of_shaped sd) hroom, ?_⟩
      refine ⟨.int ((ds.countP fun z => PyData.eqv z d : Nat) : Int), H, I.tok _, ⟨s.toks, ?_⟩, q⟩
      show Value.int ((its.toArray.toList.countP _ : Nat) : Int) s.toks = Value.int _ s.toks
      rw [ec]
/-- a method's call on a list: the list is one -/
def isLd : Dt → Bool
  | .l _ => true
  | _ => false
def mMt (p : List Dt → Option Vl) (A : Am) (as : List Am) : Ev → Ou Vl := fun r => match evA [A] r with
  | .ok ys r1 => match look r1 ys with
    | some [x] => if isLd x then mP p (A :: as) r else .no
    | _ => .no
  | .ex c fs r1 => .ex c fs r1
  | .no => .no
theorem ty_listC {M : Addr → Prop} {v : V} {xs : List Dt} (c : Co K M H v (.l xs)) : tyV K "list" v H := by
  obtain ⟨a, us, rfl, h, _⟩ := c.lst
  exact .inl ⟨rfl, _, .inl (.inl h)⟩
def m2l (r : V → List V → Hp → VK → Prop) : List V → Hp → VK → Prop
  | x :: xs, H, Q => r x xs H Q
  | [], _, _ => False
theorem mP_end {rr : List V → Hp → VK → Prop} {f : List Dt → Option Vl} (hp : Pr K rr f) {Q : VK} {H0 H1 : Hp} {M0 M1 : Addr → Prop} {G0 G1 : Nat → List Addr} {r1 : Ev} {vs : List V} {ys : List Ag} {xs : List Dt} {x : Dt} {m : Md} (ht : Hotty M0 H0)
    (e1 : ER K r1 σ G1 M1 H1) (v1 : Evo H0 M0 G0 H1 M1 G1 []) (a1 : AgL K M1 H1 σ vs ys) (hl : look r1 ys = some xs) (hf : f xs = some (x, m))
    (h : ∀ v H' M' G' F, PX K (if x.flat then r1 else frz ys r1) σ H0 M0 G0 v x m H' M' G' F → Q v H') : rr vs H1 Q := by
  have cc : CoL K (fun b => M1 b ∧ b ∉ owns G1 ys) H1 vs xs := look_cold e1 (fun b z => z.1) (fun b hb z => z.2 hb) a1 hl
  have ht1 : Hotty (fun b => M1 b ∧ b ∉ owns G1 ys) H1 := fun b z => e1.hot b z.1
  by_cases hx : x.flat = true
  · rw [if_pos hx] at h
    exact hp _ H1 vs xs x m Q ht1 cc hf fun v H2 F p => h v H2 _ _ F (p.px e1 v1 ht hx)
  · rw [if_neg hx] at h
    obtain ⟨G2, e2, s2⟩ := e1.frz ys
    have v2 : Evo H1 M1 G1 H1 (fun b => M1 b ∧ b ∉ owns G1 ys) G2 [] := ⟨fun _ _ h _ => h, fun _ h => h, fun b z => .inl z.1, fun b h hb => ⟨h, fun z => let ⟨i, q⟩ := mem_owns z; hb i q⟩, fun i b hb => .inl ⟨i, s2 i b hb⟩, fun _ h => nomatch h⟩
    exact hp _ H1 vs xs x m Q ht1 cc hf fun v H2 F p => h v H2 _ _ F (p.px2 e2 (v1.trans ht v2) ht)
theorem tO_and {A : Am} {as : List Am} {p : List Dt → Option Vl} {rr : V → List V → Hp → VK → Prop} (hp : Pr K (m2l rr) p) {Q : VK} (h : tI K cl W (mMt p A as) σ H Q) : tO K cl W A σ H fun v H1 => tyV K "list" v H1 ∧ tOs K cl W as σ H1 fun vs H2 => rr v vs H2 Q := by
  obtain ⟨r, M, G, e, h⟩ := h
  simp only [mMt] at h
  cases A with
  | v i =>
    simp only [evA] at h
    cases hr : r[i]? with
    | none => rw [hr] at h; exact h.elim
    | some o =>
      cases o with
      | none => rw [hr] at h; exact h.elim
      | some xm =>
        obtain ⟨x, m⟩ := xm
        rw [hr] at h
        simp only [look, hr, Option.map_some] at h
        by_cases hx : isLd x = true
        · rw [if_pos hx] at h
          have := mP_ok hp (cl := cl) (W := W) (σ := σ) (H := H) (K := K) (as := .v i :: as) (Q := Q) ⟨r, M, G, e, h⟩
          obtain ⟨v, hv, q⟩ := this
          refine ⟨v, hv, ?_, q⟩
          cases x with
          | l xs =>
            obtain ⟨a, us, h1, h2⟩ := e.isL hr ⟨xs, rfl⟩
            rw [hv] at h1
            cases h1
            exact .inl ⟨rfl, us, .inl (.inl h2)⟩
          | _ => cases hx
        · rw [if_neg hx] at h; exact h.elim
  | e f =>
    show tI K cl W f σ H _
    refine ⟨r, M, G, e, ?_⟩
    simp only [evA] at h
    cases hf : f r with
    | no => rw [hf] at h; exact h
    | ex c fs r1 => rw [hf] at h; exact h
    | ok xm r1 =>
      obtain ⟨x, m⟩ := xm
      rw [hf] at h
      simp only [look, Option.map_some] at h
      by_cases hx : isLd x = true
      · rw [if_pos hx] at h
        intro v H1 M1 G1 F px
        have ht : tyV K "list" v H1 := by
          cases x with
          | l xs =>
            cases m with
            | c => exact ty_listC px.rp.1
            | t =>
              obtain ⟨a, us, xs', rfl, _, _, q, _⟩ := px.rp
              exact .inl ⟨rfl, us, .inl (.inl q)⟩
            | a =>
              have q : Ho K H1 v (.l xs) F := px.rp
              cases q with
              | l q _ => exact .inl ⟨rfl, _, .inl (.inl q)⟩
          | _ => cases hx
        refine ⟨ht, ?_⟩
        obtain ⟨M2, e2, v2, c2⟩ := px.giveUp e.hot
        refine tOs_ok as e2 ?_
        simp only [mP, evA, hf] at h
        cases ha : evA as r1 with
        | no => rw [ha] at h; exact h
        | ex c fs r2 =>
          rw [ha] at h
          exact fun d H3 M3 G3 q => h d H3 M3 G3 ⟨q.er, v2.trans e.hot q.ev, q.xd⟩
        | ok ys r2 =>
          rw [ha] at h
          simp only at h
          intro vs H3 M3 G3 e3 v3 a3
          have c3 := c2.fm (e2.fm v3)
          have a4 : AgL K M3 H3 σ (v :: vs) (.d x :: ys) := .d c3 a3
          have v4 := v2.trans e.hot v3
          cases hl : look r2 (.d x :: ys) with
          | none => rw [hl] at h; exact h.elim
          | some xs =>
            rw [hl] at h
            simp only at h
            cases hq : p xs with
            | none => rw [hq] at h; exact h.elim
            | some xm =>
              obtain ⟨x', m'⟩ := xm
              rw [hq] at h
              exact mP_end hp e.hot e3 v4 a4 hl hq h
      · rw [if_neg hx] at h; exact h.elim
def fCnt : List Dt → Option Vl
  | [.l xs, y] => if shp (.l xs) && shp y then some (.i (xs.countP fun z => eqD z y : Nat), .c) else none
  | _ => none
theorem pr_cnt : Pr K (m2l (rCntD K)) fCnt := fun M H vs xs x m Q ht c hf k => by
  unfold fCnt at hf
  split at hf
  · split at hf
    · rename_i ys y h
      cases hf
      simp only [Bool.and_eq_true] at h
      obtain ⟨v, w, rfl, c1, c2⟩ := c.two
      have h1 := c1.dp (nob_shp h.1)
      obtain ⟨a, us, rfl, _, _⟩ := c1.lst
      refine ⟨a, w, toP y, toPL ys, rfl, rfl, h1, c2.dp (nob_shp h.2), h.1, h.2, ?_⟩
      rw [show (toPL ys).countP (fun z => PyData.eqv z (toP y)) = ys.countP fun z => eqD z y by rw [toPL_map, List.countP_map]; rfl]
      exact k _ _ _ (mk_c ht (.i _))
    · cases hf
  · cases hf
theorem je_cnt {o e : Expr} {A B : Am} {apos cpos : Pos} (hu : X.A.units + 65 < cLine) (ho : JO X cl W o A) (he : JO X cl W e B)
    (hbase : attributeBase o "count" X.env (eval o X.env) = eval o X.env := by rfl)
    (hfew : ((backTo cpos (starEach [e] X.env)).all (fun x => !x.1) && (backToKw cpos (keywordEach [] X.env)).all (fun x => x.1.isSome)
      && decide ([e].length + ([] : List Keyword).length + (if ([] : List Keyword).isEmpty then 0 else 1) < 30)) = true := by rfl)
    (hline : (apos.endLine == cpos.line) = true := by rfl) (hs : starEach [e] X.env = (false, eval e X.env) :: starEach [] X.env := by rfl) : JE X cl W (.Call (.Attribute o "count" apos) [e] [] cpos) (mMt fCnt A [B]) := fun tk =>
  (pe_bm PySem.F.plainAttrs_list PySem.F.slot_list_count PySem.F.type_list_count (mt_cntD hu) (ho.pe tk) ((ja_c (cl := cl) (W := W) he ja_n hs).pa tk) hbase hfew hline hs).yimp fun _ _ _ q => tO_and pr_cnt q
def fIdx : List Dt → Option Vl
  | [.l xs, y] => if shp (.l xs) && shp y then (xs.findIdx? fun z => eqD z y).map fun j => (.i (j : Nat), .c) else none
  | _ => none
theorem pr_idx : Pr K (m2l (rIndexD K)) fIdx := fun M H vs xs x m Q ht c hf k => by
  unfold fIdx at hf
  split at hf
  · split at hf
    · rename_i ys y h
      simp only [Option.map_eq_some_iff] at hf
      obtain ⟨j, hj, hf⟩ := hf
      cases hf
      simp only [Bool.and_eq_true] at h
      obtain ⟨v, w, rfl, c1, c2⟩ := c.two
      have h1 := c1.dp (nob_shp h.1)
      obtain ⟨a, us, rfl, _, _⟩ := c1.lst
      obtain ⟨g1, g2, g3⟩ := List.findIdx?_eq_some_iff_getElem.mp hj
      refine ⟨a, w, toP y, toPL ys, j, toP ys[j], rfl, rfl, h1, c2.dp (nob_shp h.2), h.1, h.2, ?_, g2, fun m z' hm hz => ?_, k _ _ _ (mk_c ht (.i _))⟩
      · rw [toPL_map, List.getElem?_map, List.getElem?_eq_getElem g1]; rfl
      · rw [toPL_map, List.getElem?_map, List.getElem?_eq_getElem (by omega)] at hz
        cases hz
        have := g3 m hm
        simpa [eqD] using this
    · cases hf
  · cases hf
theorem je_idx {o e : Expr} {A B : Am} {apos cpos : Pos} (hu : X.A.units + 65 < cLine) (ho : JO X cl W o A) (he : JO X cl W e B)
    (hbase : attributeBase o "index" X.env (eval o X.env) = eval o X.env := by rfl)
    (hfew : ((backTo cpos (starEach [e] X.env)).all (fun x => !x.1) && (backToKw cpos (keywordEach [] X.env)).all (fun x => x.1.isSome)
      && decide ([e].length + ([] : List Keyword).length + (if ([] : List Keyword).isEmpty then 0 else 1) < 30)) = true := by rfl)
    (hline : (apos.endLine == cpos.line) = true := by rfl) (hs : starEach [e] X.env = (false, eval e X.env) :: starEach [] X.env := by rfl) : JE X cl W (.Call (.Attribute o "index" apos) [e] [] cpos) (mMt fIdx A [B]) := fun tk =>
  (pe_bm PySem.F.plainAttrs_list PySem.F.slot_list_index PySem.F.type_list_index (mt_indexD hu) (ho.pe tk) ((ja_c (cl := cl) (W := W) he ja_n hs).pa tk) hbase hfew hline hs).yimp fun _ _ _ q => tO_and pr_idx q
end
end Y
/-! V, part B: objects of the program's classes, made once and only looked at: fields, methods, making. -/
namespace Y
open PySem L2 PyProof.Rows
/-! ### a field -/
def fFld (c f : Str) : List Dt → Option Vl
  | [.o c' ns fs] => if c' = c then ((ns.zip fs).lookup f).map fun x => (x, .c) else none
  | _ => none
section
variable {X : Cx} {K : PySem.W.Frag} {cl : Str → Addr} {W : WX} {σ : L2.St} {M : Addr → Prop} {H : Hp} {C : Addr} {c f : Str}
theorem CoL.lookup : ∀ {fvs : List (Str × V)} {fs : List Dt} {x : Dt}, CoL K M H (fvs.map (·.2)) fs → ((fvs.map (·.1)).zip fs).lookup f = some x → ∃ v, fvs.lookup f = some v ∧ Co K M H v x
  | [], _, _, _, h => by simp at h
  | (g, v) :: fvs, [], _, q, _ => by cases q
  | (g, v) :: fvs, y :: fs, x, q, h => by
    cases q with
    | cons q1 q2 =>
      simp only [List.map_cons, List.zip_cons_cons, List.lookup_cons] at h ⊢
      cases e : f == g with
      | true =>
        rw [e] at h
        cases h
        exact ⟨v, rfl, q1⟩
      | false =>
        rw [e] at h
        exact CoL.lookup q2 h
def rFld (K : PySem.W.Frag) (f : Str) : V → Hp → VK → Prop := fun x H Q => ∃ a C dx fs v, x = .ref a ∧ H a = some (.ins C dx fs) ∧ Cls K C ∧ NoAttr K C f ∧ fs.lookup f = some v ∧ Q v H
theorem Co.obj {v : V} {ns : List Str} {fs : List Dt} (h : Co K M H v (.o c ns fs)) (hC : PySem.W.nsIn K mainGlobals c = some (some (.ref C))) : ∃ a dx fvs, v = .ref a ∧ H a = some (.ins C dx fvs) ∧ ns = fvs.map (·.1) ∧ CoL K M H (fvs.map (·.2)) fs := by
  cases h with
  | o h1 h2 h3 =>
    rw [hC] at h2
    cases h2
    exact ⟨_, _, _, rfl, h1, rfl, h3⟩
theorem pr_fld (hC : PySem.W.nsIn K mainGlobals c = some (some (.ref C))) (T : Cls K C) (n : NoAttr K C f) : Pr K (ap1 (rFld K f)) (fFld c f) := fun M H vs xs x m Q ht cc hf k => by
  unfold fFld at hf
  split at hf
  · split at hf
    · rename_i c' ns fs hc
      subst hc
      simp only [Option.map_eq_some_iff] at hf
      obtain ⟨y, hy, hf⟩ := hf
      cases hf
      obtain ⟨v, rfl, c1⟩ := cc.one
      obtain ⟨a, dx, fvs, rfl, h1, rfl, h3⟩ := c1.obj hC
      obtain ⟨u, hu, hcu⟩ := h3.lookup hy
      refine ⟨a, C, dx, fvs, u, rfl, h1, T, n, hu, k u H [] ⟨fun _ _ e => e, fun _ z => (nomatch z), List.nodup_nil, ?_⟩⟩
      exact ⟨hcu.less (fun b z => z.elim id fun z => nomatch z) ht, rfl⟩
    · cases hf
  · cases hf
theorem je_fld {e : Expr} {A : Am} {pos : Pos} (hC : PySem.W.nsIn X.K mainGlobals c = some (some (.ref C))) (T : Cls X.K C) (n : NoAttr X.K C f) (he : JO X cl W e A) (hb : attributeBase e f X.env (eval e X.env) = eval e X.env := by rfl) : JE X cl W (.Attribute e f pos) (mP (fFld c f) [A]) := fun tk =>
  (pe_fld (he.pe tk) hb).yimp fun σ H Q q => by
    have := mP_ok (pr_fld hC T n) q
    cases A <;> exact this
/-! ### a method -/
def tMethS (C : Addr) (m : Str) (sp : Sp) (E : L2.St → XK) (ta : TE) (t : TA) : TE := fun σ H Q => ta σ H fun x H1 => ∃ a dx fs, x = .ref a ∧ H1 a = some (.ins C dx fs) ∧ fs.lookup m = none ∧ t σ H1 fun vs H2 => sp (x :: vs) H2 Q (E σ)
theorem pe_methS {CX : CXT} {k : Nat} {fa : Addr} {fd : FuncData} {ps : List Str} {sp : Sp} {E : L2.St → XK} {m : Str} {pos apos : Pos} {e o : Expr} {es : List Expr} {ta : TE} {t : TA} {pl : Sem Bool} (he : PE X o ta) (T : Cls X.K C) (hm : Meth X.K C m fa) (F : FnOk X.prog X.w X.K X.mg X.base CX k fa fd ps sp) (hr : Room k X.A) (hb : Binds X.K fd ps []) (hx : ∀ σ, PassesAt CX X σ (E σ)) (ha : PA X (e :: es) t)
    (hst : starEach (e :: es) X.env = (false, eval e X.env) :: starEach es X.env := by rfl) (hpl : (backTo pos (starEach es X.env)).any (·.1) = false := by rfl)
    (ht : eval (.Call (.Attribute o m apos) (e :: es) [] pos) X.env = (do
      let ov ← eval o X.env
      standAt apos.atName
      let (f, first) ← holding [ov] (getMethod ov m pl)
      callWith pos f first (backTo pos (starEach (e :: es) X.env)) (backToKw pos (keywordEach [] X.env))) := by rfl) :
    PE X (.Call (.Attribute o m apos) (e :: es) [] pos) (tMethS C m sp E ta t) := by
  refine ⟨fun pins s σ H Q I h => ?_⟩
  refine PySem.W.methodCall_KW (pl := pl) (thn (he.run pins s σ H _ I h) fun u s1 ⟨x, H1, I1, rx, a, dx, fs, ex, ea, l, q⟩ => ?_) ht
  subst ex
  obtain rfl : u = Value.ref a := rx
  refine getmeth_ok I1 ea T hm l ?_
  refine PySem.W.callWith_K (first := [.ref a]) (h₀ := X.base) I.ok.mod.kin hm.kp (thn (ha.run pos pins s1 σ H1 _ I1 q) fun us s2 ⟨vs, H2, I2, r, q2⟩ => ⟨I2.kIn, ?_⟩) hst hpl
  exact run_fnS (us := .ref a :: us) (vs := .ref a :: vs) F hr hb (hx σ) I2 (.cons rfl r) q2
theorem pe_methS0 {CX : CXT} {k : Nat} {fa : Addr} {fd : FuncData} {ps : List Str} {sp : Sp} {E : L2.St → XK} {m : Str} {pos apos : Pos} {o : Expr} {ta : TE} {pl : Sem Bool} (he : PE X o ta) (T : Cls X.K C) (hm : Meth X.K C m fa) (F : FnOk X.prog X.w X.K X.mg X.base CX k fa fd ps sp) (hr : Room k X.A) (hb : Binds X.K fd ps []) (hx : ∀ σ, PassesAt CX X σ (E σ))
    (ht : eval (.Call (.Attribute o m apos) [] [] pos) X.env = (do
      let ov ← eval o X.env
      standAt apos.atName
      let (f, first) ← holding [ov] (getMethod ov m pl)
      callWith pos f first (backTo pos (starEach [] X.env)) (backToKw pos (keywordEach [] X.env))) := by rfl) :
    PE X (.Call (.Attribute o m apos) [] [] pos) (tMethS C m sp E ta tNil) := by
  refine ⟨fun pins s σ H Q I h => ?_⟩
  refine PySem.W.methodCall_KW (pl := pl) (thn (he.run pins s σ H _ I h) fun u s1 ⟨x, H1, I1, rx, a, dx, fs, ex, ea, l, q⟩ => ?_) ht
  subst ex
  obtain rfl : u = Value.ref a := rx
  refine getmeth_ok I1 ea T hm l ?_
  exact PySem.W.callWith_K0 (first := [.ref a]) I1.kIn hm.kp (run_fnS (us := [.ref a]) (vs := [.ref a]) F hr hb (hx σ) I1 (.cons rfl .nil) q)
def isO (c m : Str) : Dt → Bool
  | .o c' ns _ => decide (c' = c) && !ns.contains m
  | _ => false
def mMe (c m : Str) (fn : Fn) (A : Am) (as : List Am) : Ev → Ou Vl := fun r => match evA [A] r with
  | .ok ys r1 => match look r1 ys with
    | some [x] => if isO c m x then mC fn (A :: as) r else .no
    | _ => .no
  | .ex c fs r1 => .ex c fs r1
  | .no => .no
theorem mC_end {n : Nat} {fn : Fn} {Q : VK} {H0 H1 : Hp} {M0 M1 : Addr → Prop} {G0 G1 : Nat → List Addr} {r1 : Ev} {vs : List V} {ys : List Ag} {xs : List Dt} (hlen : vs.length = n) (ht : Hotty M0 H0)
    (e1 : ER K r1 σ G1 M1 H1) (v1 : Evo H0 M0 G0 H1 M1 G1 []) (a1 : AgL K M1 H1 σ vs ys) (hl : look r1 ys = some xs)
    (h : match (match fn (cold xs) with
      | .rt (x, m) _ => Ou.ok (x, m) (if zfl (x, m) then r1 else frz ys r1)
      | .ex c fs _ => if flatF fs then .ex c fs r1 else .no
      | .no => .no) with
      | .ok (x, m) r' => ∀ v H' M' G' F, PX K r' σ H0 M0 G0 v x m H' M' G' F → Q v H'
      | .ex c fs r' => ∀ d H' M' G', XX K r' σ H0 M0 G0 fs d H' M' G' → W (.ref (cl c)) d σ H'
      | .no => False) : spY K cl false n fn vs H1 Q (WE W σ) := by
  have cc : CoL K (fun b => M1 b ∧ b ∉ owns G1 ys) H1 vs xs := look_cold e1 (fun b z => z.1) (fun b hb z => z.2 hb) a1 hl
  have ht1 : Hotty (fun b => M1 b ∧ b ∉ owns G1 ys) H1 := fun b z => e1.hot b z.1
  have hB : ∀ b ∈ owns G1 ys, M1 b ∧ ∃ i, b ∈ G1 i := fun b hb => ⟨owns_sub e1 b hb, mem_owns hb⟩
  refine ⟨hlen, cold xs, _, fun _ => [], ER.ofCold ht1 cc, fun _ _ => rfl, ?_⟩
  cases hf : fn (cold xs) with
  | no => rw [hf] at h; exact h
  | rt xm z =>
    obtain ⟨x, m⟩ := xm
    rw [hf] at h
    simp only at h
    intro v H2 M3 G3 F p
    by_cases hx : zfl (x, m) = true
    · rw [if_pos hx] at h
      obtain ⟨e2, f2⟩ := after e1 p.ev p.er.hot (fun _ _ _ _ z => nomatch z) (fun _ _ z => nomatch z) fun b hb => ⟨owns_sub e1 b hb, fun _ z => nomatch z⟩
      exact h v H2 _ G1 F ⟨e2, v1.trans ht (evo_lent hB p.ev), p.rp.zfl hx, p.nd, fun b hb => ⟨.inl (p.hot b hb).1, f2 b hb⟩⟩
    · rw [if_neg hx] at h
      obtain ⟨G2, e2, s2⟩ := e1.frz ys
      have ev' : Evo H1 (fun b => (M1 b ∧ b ∉ owns G1 ys) ∧ b ∉ ([] : List Addr)) (fun _ => []) H2 M3 G3 F :=
        ⟨p.ev.pres, p.ev.dom, fun b z => (p.ev.grow b z).imp (fun q => ⟨q, by simp⟩) id, fun b z => p.ev.keep b z.1, p.ev.env, p.ev.res⟩
      obtain ⟨e3, f3⟩ := after (B := []) e2 ev' p.er.hot (fun _ _ _ _ z => nomatch z) (fun _ _ z => nomatch z) fun b hb => nomatch hb
      have e3' : ER K (frz ys r1) σ G2 M3 H2 := e3.lessM (fun b z => .inl z) fun i b hb => (e3.sub i b hb).elim id fun z => nomatch z
      exact h v H2 _ G2 F ⟨e3', v1.trans ht (evo_lent2 hB s2 p.ev), p.rp, p.nd, fun b hb => ⟨(p.hot b hb).1, f3 b hb⟩⟩
  | ex c fs z =>
    rw [hf] at h
    simp only at h
    intro d H2 M3 G3 p
    by_cases hx : flatF fs = true
    · rw [if_pos hx] at h
      obtain ⟨e2, f2⟩ := after e1 p.ev p.er.hot (fun _ _ _ _ z => nomatch z) (fun _ _ z => nomatch z) fun b hb => ⟨owns_sub e1 b hb, fun _ z => nomatch z⟩
      exact h d H2 _ G1 ⟨e2, v1.trans ht (evo_lent hB p.ev), p.xd.flatAny hx⟩
    · rw [if_neg hx] at h
      exact h.elim
theorem lookup_none {m : Str} : ∀ {fvs : List (Str × V)}, (fvs.map (·.1)).contains m = false → fvs.lookup m = none
  | [], _ => rfl
  | (g, v) :: fvs, h => by
    simp only [List.map_cons, List.contains_cons, Bool.or_eq_false_iff] at h
    simp only [List.lookup_cons, h.1]
    exact lookup_none h.2
theorem isO_at {m : Str} {v : V} {x : Dt} (hx : isO c m x = true) (h : Co K M H v x) (hC : PySem.W.nsIn K mainGlobals c = some (some (.ref C))) : ∃ a dx fs, v = .ref a ∧ H a = some (.ins C dx fs) ∧ fs.lookup m = none := by
  cases x with
  | o c' ns fs =>
    simp only [isO, Bool.and_eq_true, decide_eq_true_eq, Bool.not_eq_true'] at hx
    obtain ⟨rfl, h2⟩ := hx
    obtain ⟨a, dx, fvs, rfl, h1, rfl, _⟩ := h.obj hC
    exact ⟨a, dx, fvs, rfl, h1, lookup_none h2⟩
  | _ => cases hx
theorem Rp.obj {m : Md} {v : V} {x : Dt} {F : List Addr} {nm : Str} (hx : isO c nm x = true) (h : Rp K M H m v x F) : Co K M H v x := by
  cases x with
  | o c' ns fs =>
    cases m with
    | c => exact h.1
    | t => obtain ⟨_, _, _, _, e, _⟩ := h; cases e
    | a => exact nomatch (show Ho K H v (.o c' ns fs) F from h)
  | _ => cases hx
theorem mMe_ok {n : Nat} {fn : Fn} {m : Str} {A : Am} {as : List Am} {Q : VK} (hC : PySem.W.nsIn K mainGlobals c = some (some (.ref C))) (hn : as.length + 1 = n) (h : tI K cl W (mMe c m fn A as) σ H Q) : tMethS C m (spY K cl false n fn) (WE W) (tO K cl W A) (tOs K cl W as) σ H Q := by
  obtain ⟨r, M, G, e, h⟩ := h
  simp only [mMe] at h
  cases A with
  | v i =>
    simp only [evA] at h
    cases hr : r[i]? with
    | none => rw [hr] at h; exact h.elim
    | some o =>
      cases o with
      | none => rw [hr] at h; exact h.elim
      | some xm =>
        obtain ⟨x, md⟩ := xm
        rw [hr] at h
        simp only [look, hr, Option.map_some] at h
        by_cases hx : isO c m x = true
        · rw [if_pos hx] at h
          obtain ⟨v, hv, q⟩ := mC_ok (K := K) (cl := cl) (W := W) (n := n) (as := .v i :: as) (Q := Q) (by simpa using hn) ⟨r, M, G, e, h⟩
          obtain ⟨v', hv', rp⟩ := e.at_ i x md hr
          rw [hv] at hv'
          cases hv'
          obtain ⟨a, dx, fs, h1, h2, h3⟩ := isO_at hx (rp.obj hx) hC
          exact ⟨v, hv, a, dx, fs, h1, h2, h3, q⟩
        · rw [if_neg hx] at h; exact h.elim
  | e f =>
    show tI K cl W f σ H _
    refine ⟨r, M, G, e, ?_⟩
    simp only [evA] at h
    cases hf : f r with
    | no => rw [hf] at h; exact h
    | ex c fs r1 => rw [hf] at h; exact h
    | ok xm r1 =>
      obtain ⟨x, md⟩ := xm
      rw [hf] at h
      simp only [look, Option.map_some] at h
      by_cases hx : isO c m x = true
      · rw [if_pos hx] at h
        intro v H1 M1 G1 F px
        obtain ⟨a, dx, fs, h1, h2, h3⟩ := isO_at hx (px.rp.obj hx) hC
        refine ⟨a, dx, fs, h1, h2, h3, ?_⟩
        obtain ⟨M2, e2, v2, c2⟩ := px.giveUp e.hot
        refine tOs_ok as e2 ?_
        simp only [mC, evA, hf] at h
        cases ha : evA as r1 with
        | no => rw [ha] at h; exact h
        | ex c fs r2 =>
          rw [ha] at h
          exact fun d H3 M3 G3 q => h d H3 M3 G3 ⟨q.er, v2.trans e.hot q.ev, q.xd⟩
        | ok ys r2 =>
          rw [ha] at h
          simp only at h
          intro vs H3 M3 G3 e3 v3 a3
          have c3 := c2.fm (e2.fm v3)
          have a4 : AgL K M3 H3 σ (v :: vs) (.d x :: ys) := .d c3 a3
          have v4 := v2.trans e.hot v3
          cases hl : look r2 (.d x :: ys) with
          | none => rw [hl] at h; exact h.elim
          | some xs =>
            rw [hl] at h
            have hlen : (v :: vs).length = n := by rw [← hn, List.length_cons, a3.len, evA_len as ha]
            exact mC_end hlen e.hot e3 v4 a4 hl h
      · rw [if_neg hx] at h; exact h.elim
theorem je_meth {k : Nat} {fa : Addr} {fd : FuncData} {ps : List Str} {n : Nat} {fn : Fn} {m : Str} {pos apos : Pos} {e o : Expr} {es : List Expr} {A : Am} {as : List Am} {pl : Sem Bool} (hC : PySem.W.nsIn X.K mainGlobals c = some (some (.ref C))) (T : Cls X.K C) (hm : Meth X.K C m fa) (F : FnOk X.prog X.w X.K X.mg X.base (L2.CX X.prog X.w) k fa fd ps (spY X.K cl false n fn)) (hr : Room k X.A)
    (hb : Binds X.K fd ps []) (ho : JO X cl W o A) (ha : JA X cl W (e :: es) as) (hn : as.length + 1 = n := by rfl) (hst : starEach (e :: es) X.env = (false, eval e X.env) :: starEach es X.env := by rfl) (hpl : (backTo pos (starEach es X.env)).any (·.1) = false := by rfl)
    (ht : eval (.Call (.Attribute o m apos) (e :: es) [] pos) X.env = (do
      let ov ← eval o X.env
      standAt apos.atName
      let (f, first) ← holding [ov] (getMethod ov m pl)
      callWith pos f first (backTo pos (starEach (e :: es) X.env)) (backToKw pos (keywordEach [] X.env))) := by rfl) : JE X cl W (.Call (.Attribute o m apos) (e :: es) [] pos) (mMe c m fn A as) := fun tk =>
  (pe_methS (pl := pl) (ho.pe tk) T hm F hr hb (fun σ => passAt tk σ) (ha.pa tk) hst hpl ht).yimp fun _ _ _ q => mMe_ok hC hn q
theorem je_meth0 {k : Nat} {fa : Addr} {fd : FuncData} {ps : List Str} {fn : Fn} {m : Str} {pos apos : Pos} {o : Expr} {A : Am} {pl : Sem Bool} (hC : PySem.W.nsIn X.K mainGlobals c = some (some (.ref C))) (T : Cls X.K C) (hm : Meth X.K C m fa) (F : FnOk X.prog X.w X.K X.mg X.base (L2.CX X.prog X.w) k fa fd ps (spY X.K cl false 1 fn)) (hr : Room k X.A)
    (hb : Binds X.K fd ps []) (ho : JO X cl W o A)
    (ht : eval (.Call (.Attribute o m apos) [] [] pos) X.env = (do
      let ov ← eval o X.env
      standAt apos.atName
      let (f, first) ← holding [ov] (getMethod ov m pl)
      callWith pos f first (backTo pos (starEach [] X.env)) (backToKw pos (keywordEach [] X.env))) := by rfl) : JE X cl W (.Call (.Attribute o m apos) [] [] pos) (mMe c m fn A []) := fun tk =>
  (pe_methS0 (pl := pl) (ho.pe tk) T hm F hr hb (fun σ => passAt tk σ) ht).yimp fun _ _ _ q => mMe_ok (as := []) hC rfl q
end
end Y
/-! V, part C: the making of an object: __init__ as a row of stores (and plain statements), C(..). -/
namespace Y
open PySem L2 PyProof.Rows
/-! ### the heap without one object -/
def rem (H : Hp) (p : Addr) : Hp := fun b => if b = p then none else H b
theorem rem_ne {H : Hp} {p b : Addr} (h : b ≠ p) : rem H p b = H b := if_neg h
theorem rem_at {H : Hp} {p : Addr} : rem H p p = none := if_pos rfl
theorem rem_some {H : Hp} {p b : Addr} {o : HO} (h : rem H p b = some o) : b ≠ p ∧ H b = some o := by
  by_cases e : b = p
  · rw [e, rem_at] at h; cases h
  · rw [rem_ne e] at h; exact ⟨e, h⟩
theorem rem_none {H : Hp} {p b : Addr} (h : H b = none) : rem H p b = none := by
  by_cases e : b = p
  · rw [e, rem_at]
  · rw [rem_ne e, h]
theorem rem_upd {H : Hp} {p : Addr} {o : HO} : rem (upd H p o) p = rem H p := by
  funext b
  by_cases e : b = p
  · rw [e, rem_at, rem_at]
  · rw [rem_ne e, rem_ne e, upd_ne e]
def nobE : Ev → Bool
  | [] => true
  | none :: r => nobE r
  | some (x, _) :: r => nob x && nobE r
theorem nobE_at : ∀ {r : Ev} {i : Nat} {x : Dt} {m : Md}, nobE r = true → r[i]? = some (some (x, m)) → nob x = true
  | [], _, _, _, _, h => by simp at h
  | none :: r, 0, _, _, _, h => by simp at h
  | some (y, n) :: r, 0, x, m, hb, h => by
    simp only [List.getElem?_cons_zero, Option.some.injEq, Prod.mk.injEq] at h
    obtain ⟨rfl, rfl⟩ := h
    simp only [nobE, Bool.and_eq_true] at hb
    exact hb.1
  | none :: r, i + 1, x, m, hb, h => nobE_at (r := r) (i := i) hb (by simpa using h)
  | some (y, n) :: r, i + 1, x, m, hb, h => by
    simp only [nobE, Bool.and_eq_true] at hb
    exact nobE_at (r := r) (i := i) hb.2 (by simpa using h)
section
variable {K : PySem.W.Frag} {M M' : Addr → Prop} {H H' H0 : Hp} {p C dx : Addr} {fvs : List (Str × V)} {G G' : Nat → List Addr} {F : List Addr} {r r' : Ev} {σ : L2.St}
theorem rd_rem (hp : H p = some (.ins C dx fvs)) {a : Addr} {u : HO} (h : Rd H a u) (hu : ∀ z, u ≠ .ins C dx z) : Rd (rem H p) a u := by
  rcases h with h | ⟨o, h⟩
  · exact .inl (by rw [rem_ne (ne_of h hp (hu _))]; exact h)
  · exact .inr ⟨o, by rw [rem_ne (ne_of h hp fun z => by cases z)]; exact h⟩
mutual
theorem Co.rem (hp : H p = some (.ins C dx fvs)) : ∀ {v : V} {x : Dt}, Co K M H v x → nob x = true → Co K M (rem H p) v x
  | _, _, .n, _ => .n
  | _, _, .b x, _ => .b x
  | _, _, .i x, _ => .i x
  | _, _, .s x, _ => .s x
  | _, _, .t h q, b => .t (h.imp (fun z => rd_rem hp z fun _ e => by cases e) id) (CoL.rem hp q b)
  | _, _, .l h hn q, b => .l (by rw [rem_ne (ne_of h hp fun e => by cases e)]; exact h) hn (CoL.rem hp q b)
  | _, _, .z h q, b => .z (h.imp (fun ⟨o, z⟩ => ⟨o, by rw [rem_ne (ne_of z hp fun e => by cases e)]; exact z⟩) id) (CoL.rem hp q b)
  | _, _, .m _ _, b => nomatch b
  | _, _, .o _ _ _, b => nomatch b
theorem CoL.rem (hp : H p = some (.ins C dx fvs)) : ∀ {vs : List V} {xs : List Dt}, CoL K M H vs xs → nobL xs = true → CoL K M (rem H p) vs xs
  | _, _, .nil, _ => .nil
  | _, _, .cons h q, b => .cons (Co.rem hp h (by simp only [nobL, Bool.and_eq_true] at b; exact b.1)) (CoL.rem hp q (by simp only [nobL, Bool.and_eq_true] at b; exact b.2))
end
theorem Rp.rem (hp : H p = some (.ins C dx fvs)) {m : Md} {v : V} {x : Dt} (h : Rp K M H m v x F) (b : nob x = true) : Rp K M (rem H p) m v x F := by
  have hl := h.lists
  cases m with
  | c => exact ⟨h.1.rem hp b, h.2⟩
  | t =>
    obtain ⟨a, vs, xs, h1, h2, h3, h4, h5⟩ := h
    subst h2
    exact ⟨a, vs, xs, h1, rfl, h3, by rw [rem_ne (ne_of h4 hp fun e => by cases e)]; exact h4, h5.rem hp b⟩
  | a =>
    refine Ho.stay (fun a xs q => rd_rem hp q fun _ e => by cases e) (fun a o u q => by rw [rem_ne (ne_of q hp fun e => by cases e)]; exact q) h fun a ha => ?_
    obtain ⟨xs, q⟩ := hl a ha
    exact rem_ne (ne_of q hp fun e => by cases e)
theorem ER.rem (hp : H p = some (.ins C dx fvs)) {y : Dt} (e : ER K (some (y, .c) :: r) σ G M H) (b : nobE r = true) : ER K (none :: r) σ G M (rem H p) := by
  refine ⟨by simpa using e.len, fun i x m h => ?_, fun i h => ?_, e.nd, e.dj, e.sub, fun a ha => ?_⟩
  · cases i with
    | zero => simp at h
    | succ i =>
      have h2 : r[i]? = some (some (x, m)) := by simpa using h
      obtain ⟨v, h3, h4⟩ := e.at_ (i + 1) x m (by simpa using h2)
      exact ⟨v, h3, h4.rem hp (nobE_at b h2)⟩
  · cases i with
    | zero =>
      obtain ⟨v, _, h4⟩ := e.at_ 0 y .c (by simp)
      exact h4.2
    | succ i => exact e.emp (i + 1) fun x m q => h x m (by simpa using q)
  · obtain ⟨xs, q⟩ := e.hot a ha
    exact ⟨xs, by rw [rem_ne (ne_of q hp fun e => by cases e)]; exact q⟩
theorem Evo.rem (a : Evo H M G H' M' G' F) : Evo (rem H p) M G (rem H' p) M' G' F := by
  refine ⟨fun b o q k => ?_, fun b q => ?_, fun b q => (a.grow b q).imp id rem_none, a.keep, fun i b q => (a.env i b q).imp id rem_none, fun b q => (a.res b q).imp id rem_none⟩
  · obtain ⟨h1, h2⟩ := rem_some q
    rw [rem_ne h1]
    exact a.pres b o h2 k
  · by_cases e : b = p
    · rw [e, rem_at]
    · rw [rem_ne e] at q ⊢
      exact a.dom b q
/-- the object alone, nobody else knows it -/
structure NS (K : PySem.W.Frag) (C p : Addr) (H0 : Hp) (M0 : Addr → Prop) (G0 : Nat → List Addr) (r : Ev) (ns : List Str) (fs : List Dt) (σ : L2.St) (H : Hp) (M : Addr → Prop) (G : Nat → List Addr) : Prop where
  ob : ∃ dx fvs, H p = some (.ins C dx fvs) ∧ fvs.map (·.1) = ns ∧ CoL K M (Y.rem H p) (fvs.map (·.2)) fs
  er : ER K (none :: r) σ G M (Y.rem H p)
  ev : Evo (Y.rem H0 p) M0 G0 (Y.rem H p) M G []
  s0 : σ[0]? = some (some (.ref p))
  ht : Hotty M0 (Y.rem H0 p)
theorem NS.full {c : Str} {M0 : Addr → Prop} {G0 : Nat → List Addr} {ns : List Str} {fs : List Dt} (S : NS K C p H0 M0 G0 r ns fs σ H M G) (hC : PySem.W.nsIn K mainGlobals c = some (some (.ref C))) : ER K (some (.o c ns fs, .c) :: r) σ G M H := by
  obtain ⟨dx, fvs, hp, rfl, hc⟩ := S.ob
  have g : ∀ b o, Y.rem H p b = some o → H b = some o := fun b o q => (rem_some q).2
  obtain ⟨e, v⟩ := S.er.grown g
  have c2 := hc.fm (S.er.fm v)
  have g0 : G 0 = [] := e.emp 0 fun x m => by simp
  refine ⟨by simpa using e.len, fun i x m h => ?_, fun i h => ?_, e.nd, e.dj, e.sub, e.hot⟩
  · cases i with
    | zero =>
      simp only [List.getElem?_cons_zero, Option.some.injEq, Prod.mk.injEq] at h
      obtain ⟨rfl, rfl⟩ := h
      exact ⟨_, S.s0, .o hp hC c2, g0⟩
    | succ i => exact e.at_ (i + 1) x m (by simpa using h)
  · cases i with
    | zero => exact g0
    | succ i => exact e.emp (i + 1) fun x m q => h x m (by simpa using q)
end
/-! ### __init__ as rows -/
inductive IR where
  | fld (f : Str) (g : Ev → Ou Vl)
  | st (s : Ev → So)
def iRun (c : Str) : List IR → Ev → List Str → List Dt → Option (List Str × List Dt)
  | [], _, ns, fs => some (ns, fs)
  | .fld f g :: w, r, ns, fs => match g (some (.o c ns fs, .c) :: r) with
    | .ok (x, _) (some (_, .c) :: r2) => if (nob x && nobE r2 && !ns.contains f && decide (ns.length < 900)) = true then iRun c w r2 (ns ++ [f]) (fs ++ [x]) else none
    | _ => none
  | .st s :: w, r, ns, fs => match s (some (.o c ns fs, .c) :: r) with
    | .nx (some (_, .c) :: r2) => if nobE r2 = true then iRun c w r2 ns fs else none
    | _ => none
def tN (K : PySem.W.Frag) (C : Addr) (c : Str) (w : List IR) : TS := fun D σ H => ∃ p r ns fs M G H0 M0 G0, NS K C p H0 M0 G0 r ns fs σ H M G ∧ ∃ ns' fs', iRun c w r ns fs = some (ns', fs') ∧
  ∀ r' σ' H' M' G', NS K C p H0 M0 G0 r' ns' fs' σ' H' M' G' → D.nx σ' H'
theorem putF_new {f : Str} {v : V} : ∀ {fvs : List (Str × V)}, (fvs.map (·.1)).contains f = false → putF f v fvs = fvs ++ [(f, v)]
  | [], _ => rfl
  | (g, y) :: fvs, h => by
    simp only [List.map_cons, List.contains_cons, Bool.or_eq_false_iff] at h
    have hne : ¬ g = f := fun e => by rw [e] at h; simp at h
    show (if g = f then _ else _) = _
    rw [if_neg hne, putF_new h.2]
    rfl
section
variable {X : Cx} {cl : Str → Addr} {W : WX} {C : Addr} {c f : Str} {w : List IR}
def JN (X : Cx) (cl : Str → Addr) (W : WX) (C : Addr) (c : Str) (sts : List Stmt) (w : List IR) : Prop := Takes X W → PSs X sts (tN X.K C c w)
theorem jn_nil : JN X cl W C c [] [] := fun _ => pss_nil.yimp fun D σ H ⟨p, r, ns, fs, M, G, H0, M0, G0, S, ns', fs', e, k⟩ => by
  cases e
  exact k _ _ _ _ _ S
theorem jn_fld {o value : Expr} {g : Ev → Ou Vl} {pos' pos : Pos} {sts : List Stmt} (hC : PySem.W.nsIn X.K mainGlobals c = some (some (.ref C))) (T : Cls X.K C) (n : NoAttr X.K C f) (ho : PE X o (tVar 0)) (hv : JE X cl W value g) (q : JN X cl W C c sts w)
    (hs : swapsWith value (some (.Attribute o f pos')) pos.line X.env = pure false := by rfl) : JN X cl W C c (.Assign [.Attribute o f pos'] value pos :: sts) (.fld f g :: w) := fun tk =>
  (pss_cons (ps_fld ho (hv tk) hs) (q tk)).yimp fun D σ H ⟨p, r, ns, fs, M, G, H0, M0, G0, S, ns', fs', e, k⟩ => by
    refine ⟨_, M, G, S.full hC, ?_⟩
    simp only [iRun] at e
    cases hg : g (some (.o c ns fs, .c) :: r) with
    | no => rw [hg] at e; cases e
    | ex c fs r1 => rw [hg] at e; cases e
    | ok xm r1 =>
      obtain ⟨x, m⟩ := xm
      rw [hg] at e
      simp only at e ⊢
      intro v H1 M1 G1 F px
      split at e
      · rename_i y mm z r2 heq
        cases heq
        split at e
        · rename_i hk
          simp only [Bool.and_eq_true, Bool.not_eq_true', decide_eq_true_eq] at hk
          obtain ⟨⟨⟨n1, n2⟩, n3⟩, n4⟩ := hk
          have F0 := S.full hC
          obtain ⟨dx, fvs, hp, rfl, hc⟩ := S.ob
          have hp1 : H1 p = some (.ins C dx fvs) := px.ev.pres p _ hp fun i hi => by
            obtain ⟨xs, q⟩ := F0.hot p (F0.sub i p hi)
            rw [q] at hp
            cases hp
          obtain ⟨M2, e2, v2, c2⟩ := px.giveUp F0.hot
          have hl : fvs.length < 1000 := by
            rw [List.length_map] at n4
            omega
          refine ⟨_, S.s0, p, C, dx, fvs, rfl, hp1, T, n, hl, p, r2, fvs.map (·.1) ++ [f], fs ++ [x], M2, G1, H0, M0, G0, ⟨⟨dx, putF f v fvs, upd_same, ?_, ?_⟩, ?_, ?_, S.s0, S.ht⟩, ns', fs', e, k⟩
          · rw [putF_new n3, List.map_append]
            rfl
          · rw [putF_new n3, List.map_append, rem_upd]
            exact (hc.fm (S.er.fm v2.rem)).app (.cons (c2.rem hp1 n1) .nil)
          · rw [rem_upd]
            exact e2.rem hp1 n2
          · rw [rem_upd]
            exact S.ev.trans S.ht v2.rem
        · cases e
      · cases e
theorem jn_st {st : Stmt} {s : Ev → So} {sts : List Stmt} (hC : PySem.W.nsIn X.K mainGlobals c = some (some (.ref C))) (h : JS X cl W true st s) (q : JN X cl W C c sts w) : JN X cl W C c (st :: sts) (.st s :: w) := fun tk =>
  (pss_cons (h tk) (q tk)).yimp fun D σ H ⟨p, r, ns, fs, M, G, H0, M0, G0, S, ns', fs', e, k⟩ => by
    refine ⟨_, M, G, S.full hC, ?_⟩
    simp only [iRun] at e
    split at e
    · rename_i y r2 hs
      rw [hs]
      split at e
      · rename_i n2
        intro σ' H1 M1 G1 sx
        have F0 := S.full hC
        obtain ⟨dx, fvs, hp, rfl, hc⟩ := S.ob
        have hp1 : H1 p = some (.ins C dx fvs) := sx.ev.pres p _ hp fun i hi => by
          obtain ⟨xs, q⟩ := F0.hot p (F0.sub i p hi)
          rw [q] at hp
          cases hp
        exact ⟨p, r2, fvs.map (·.1), fs, M1, G1, H0, M0, G0, ⟨⟨dx, fvs, hp1, rfl, hc.fm (S.er.fm sx.ev.rem)⟩, sx.er.rem hp1 n2, S.ev.trans S.ht sx.ev.rem, (sx.pin rfl).trans S.s0, S.ht⟩, ns', fs', e, k⟩
      · cases e
    · cases e
end
/-- what __init__ promises -/
def spI (K : PySem.W.Frag) (C : Addr) (c : Str) (n pad : Nat) (w : List IR) : Sp := fun vs H Q _ => vs.length = n ∧ ∃ (p dx : Addr) (us : List V) (xs : List Vl) (M : Addr → Prop), vs = .ref p :: us ∧ H p = some (.ins C dx []) ∧ ER K (xs.map some) (us.map some) (fun _ => []) M (rem H p) ∧
  ∃ ns fs, iRun c w (xs.map some ++ List.replicate pad none) [] [] = some (ns, fs) ∧ ∀ r σ H' M' G', NS K C p H M (fun _ => []) r ns fs σ H' M' G' → Q .non H'
def fnMk (c : Str) (pad : Nat) (w : List IR) : Fn := fun xs => match iRun c w (xs.map some ++ List.replicate pad none) [] [] with
  | some (ns, fs) => .rt (.o c ns fs, .c) (.n, .c)
  | none => .no
section
variable {P : Program} {w : World} {K : PySem.W.Frag} {mg : Str → Option Value} {base : Heap} {cl : Str → Addr}
theorem init_ok {x qual c : Str} {st : Stmt} {f C : Addr} {fd : FuncData} {N ps : List Str} {k n pad : Nat} {rows : List IR} (F : Fun K x qual st f fd) (S : FnScope N ps (defScope st)) (hn : ps.length = n := by rfl) (hnn : N.length = n + pad := by rfl)
    (hb : ∀ (cdv : Value) (A : Around) (outer : List Env) (s : Shared) (H : Hp) (E : XK), Room k (A.deeper (envOfC qual (defScope st) s.heap.objs.size f cdv)) → JN (cxOf (L2.CX P w) P w K mg base N qual (defScope st) f cdv A outer s H E) cl (fun cls d _ H => E cls d H) C c (defBody st) rows) :
    FnOk P w K mg base (L2.CX P w) (k + 1) f fd ps (spI K C c n pad rows) := by
  subst hn
  refine fn_okX F S (fun vs H Q E h => h.1) fun cdv A outer s H vs Q E hr h => ⟨_, hb cdv A outer s H E hr (takes_of rfl rfl rfl rfl), ?_⟩
  obtain ⟨hlen, p, dx, us, xs, M, rfl, hp, e, ns, fs, hi, k2⟩ := h
  have e0 : ER K (none :: (xs.map some ++ List.replicate pad none)) (start N (.ref p :: us)) (fun _ => []) M (rem H p) := by
    have e1 := e.pad pad
    have hpd : N.length - (V.ref p :: us).length = pad := by rw [hlen, hnn]; omega
    show ER K _ ((V.ref p :: us).map some ++ List.replicate (N.length - (V.ref p :: us).length) none) _ _ _
    rw [hpd]
    refine ⟨by simpa using e1.len, fun i x m h => ?_, fun _ _ => rfl, fun _ => List.nodup_nil, fun _ _ _ _ h => (nomatch h), fun _ _ h => (nomatch h), e1.hot⟩
    cases i with
    | zero => simp at h
    | succ i =>
      obtain ⟨v, h1, h2⟩ := e1.at_ i x m (by simpa using h)
      exact ⟨v, by simpa using h1, h2⟩
  exact ⟨p, _, [], [], M, _, H, M, _, ⟨⟨dx, [], hp, rfl, .nil⟩, e0, .refl, rfl, e.hot⟩, ns, fs, hi, fun r σ H' M' G' S => k2 r σ H' M' G' S⟩
theorem mk_sp {C : Addr} {c : Str} {n pad : Nat} {rows : List IR} {vs : List V} {H : Hp} {Q : VK} {E : XK} (hC : PySem.W.nsIn K mainGlobals c = some (some (.ref C))) (h : spY K cl false n (fnMk c pad rows) vs H Q E) (x dx : Addr) (hx : H x = none) (hd : H dx = none) (hne : dx ≠ x) :
    spI K C c (n + 1) pad rows (.ref x :: vs) (upd (upd H dx (.own x)) x (.ins C dx [])) (fun v H2 => v = .non ∧ Q (.ref x) H2) E := by
  obtain ⟨hlen, xs, M, G, e, g0, h⟩ := h
  have hG : G = fun _ => [] := funext fun i => g0 i fun z => nomatch z
  subst hG
  have gr : ∀ b o, H b = some o → rem (upd (upd H dx (.own x)) x (.ins C dx [])) x b = some o := fun b o q => by
    have h1 : b ≠ x := fun z => by rw [z, hx] at q; cases q
    have h2 : b ≠ dx := fun z => by rw [z, hd] at q; cases q
    rw [rem_ne h1, upd_ne h1, upd_ne h2]
    exact q
  obtain ⟨e1, v1⟩ := e.grown gr
  simp only [fnMk] at h
  cases hi : iRun c rows (xs.map some ++ List.replicate pad none) [] [] with
  | none => rw [hi] at h; exact h.elim
  | some nf =>
    obtain ⟨ns, fs⟩ := nf
    rw [hi] at h
    simp only at h
    refine ⟨by simp [hlen], x, dx, vs, xs, M, rfl, upd_same, e1, ns, fs, hi, fun r σ H' M' G' S => ⟨rfl, ?_⟩⟩
    obtain ⟨e3, v3⟩ := S.er.grown (H' := H') fun b o q => (rem_some q).2
    have hrow := S.full hC
    obtain ⟨v, hv, rp⟩ := hrow.at_ 0 _ _ (List.getElem?_cons_zero ..)
    rw [S.s0] at hv
    cases hv
    have ev := (v1.trans e.hot (S.ev.trans S.ht v3))
    exact h (.ref x) H' M' (fun _ => []) [] ⟨e3.empt, ev.less fun _ _ z => (nomatch z), ⟨rp.1, rfl⟩, List.nodup_nil, fun _ z => nomatch z⟩
end
section
variable {X : Cx} {cl : Str → Addr} {W : WX} {CX : CXT} {k : Nat} {f C : Addr} {fd : FuncData} {ps : List Str} {sp : Sp} {x : Str} {p pos : Pos} {e : Expr} {es : List Expr} {t : TA}
theorem Room.make {k : Nat} {A : Around} (r : Room (k + 1) A) (C : Addr) (us : List Value) (kw : List (Str × Value)) : Room k (A.under (.builtin "type.__call__" ⟨.ref C :: us, kw⟩)) := ⟨r.toRoom.make C us kw, r.gd⟩
theorem run_makeS {pins : List (Addr × Obj)} {σ : L2.St} {H : Hp} {s : Shared} {Q : VK} {E : L2.St → XK} {us : List Value} {vs : List V} (M : L2.Mk X.K C f) (F : FnOk X.prog X.w X.K X.mg X.base CX k f fd ps sp) (hr : Room (k + 1) X.A) (hb : Binds X.K fd ps [])
    (hx : PassesAt CX X σ (E σ)) (I : Inv X pins σ H s) (r : Vals vs us)
    (h : ∀ x dx, H x = none → H dx = none → dx ≠ x → sp (.ref x :: vs) (upd (upd H dx (.own x)) x (.ins C dx [])) (fun v H2 => v = .non ∧ Q (.ref x) H2) (E σ)) :
    wpAny (model X.prog X.w) X.A (PySem.call (.ref C) us) (EP X pins σ Q) X.xe s := by
  have hq := h (s.heap.objs.size + 1) s.heap.objs.size (I.hok.fresh (Nat.le_succ _)) (I.hok.fresh (Nat.le_refl _)) (Nat.ne_of_lt (Nat.lt_succ_self _))
  have I2 := Inv.made (C := C) I
  have r2 : Vals (V.ref (s.heap.objs.size + 1) :: vs) (Value.ref (s.heap.objs.size + 1) :: us) := .cons rfl r
  have hl : (Value.ref (s.heap.objs.size + 1) :: us ++ []).length = ps.length := by
    have e := r2.length
    rw [F.len _ _ _ _ hq] at e
    rw [List.append_nil]
    exact e.symm
  have b := hb _ (Value.ref (s.heap.objs.size + 1) :: us) I2.kIn hl
  rw [List.append_nil] at b
  refine wpAny_call (make_map (f := f) I.kIn M.makes M.init (beq_iff_eq.mp M.fn) (codeAny_mono (F.run _ X.stack _ _ ⟨Value.ref (s.heap.objs.size + 1) :: us, []⟩ (Value.ref (s.heap.objs.size + 1) :: us) _ _ (E σ) (hr.make C us [])
    (I2.env0.make C us []) b r2 hq) fun fl s' hq' => ?_))
  have mm := meets I2 hx hq'
  cases fl with
  | error e => exact mm
  | ok fl =>
    cases fl with
    | ret u =>
      obtain ⟨v, H', I3, rv, ev, q3⟩ := mm
      subst ev
      exact ⟨rv, ⟨V.ref (s.heap.objs.size + 1), H', I3, rfl, q3⟩⟩
    | next => exact mm.elim
    | brk => exact mm.elim
    | cont => exact mm.elim
/-- C(e, ..) -/
theorem je_make {n pad : Nat} {rows : List IR} {as : List Am} (M : L2.Mk X.K C f) (hC : PySem.W.nsIn X.K mainGlobals x = some (some (.ref C))) (F : FnOk X.prog X.w X.K X.mg X.base (L2.CX X.prog X.w) k f fd ps (spI X.K C x (n + 1) pad rows)) (hr : Room (k + 1) X.A) (hg : Gl X x) (hm : X.mg x = some (.ref C)) (hb : Binds X.K fd ps [])
    (ha : JA X cl W (e :: es) as) (hn : as.length = n := by rfl) (hdb : (x == ("__debug__" : Str)) = false := by decide) (he : starEach (e :: es) X.env = (false, eval e X.env) :: starEach es X.env := by rfl) (hpl : (backTo pos (starEach es X.env)).any (·.1) = false := by rfl) :
    JE X cl W (.Call (.Name x p) (e :: es) [] pos) (mC (fnMk x pad rows) as) := fun tk => by
  refine ⟨fun pins s σ H Q I h => ?_⟩
  refine wpAny_Call_Name_kw (ld_glob I hg hm ?_ hdb)
  refine PySem.W.callWith_K (h₀ := X.base) I.ok.mod.kin M.kp (thn ((ha.pa tk).run pos pins s σ H _ I (mC_ok hn h)) fun us s1 ⟨vs, H1, I1, r, q⟩ => ⟨I1.kIn, ?_⟩) he hpl
  exact run_makeS (E := WE W) M F hr hb (passAt tk σ) I1 r fun x dx h1 h2 h3 => mk_sp hC q x dx h1 h2 h3
theorem je_makeE {n pad : Nat} {rows : List IR} {as : List Am} {fn : Fn} (hfn : fn = fnMk x pad rows) (M : L2.Mk X.K C f) (hC : PySem.W.nsIn X.K mainGlobals x = some (some (.ref C))) (F : FnOk X.prog X.w X.K X.mg X.base (L2.CX X.prog X.w) k f fd ps (spI X.K C x (n + 1) pad rows)) (hr : Room (k + 1) X.A) (hg : Gl X x) (hm : X.mg x = some (.ref C)) (hb : Binds X.K fd ps [])
    (ha : JA X cl W (e :: es) as) (hn : as.length = n := by rfl) (hdb : (x == ("__debug__" : Str)) = false := by decide) (he : starEach (e :: es) X.env = (false, eval e X.env) :: starEach es X.env := by rfl) (hpl : (backTo pos (starEach es X.env)).any (·.1) = false := by rfl) :
    JE X cl W (.Call (.Name x p) (e :: es) [] pos) (mC fn as) := by
  subst hfn
  exact je_make M hC F hr hg hm hb ha hn hdb he hpl
end
end Y
/-! V, part D: //=, divmod, list(range(a, b, -1)). -/
namespace Y
open PySem L2 PyProof.Rows
section
variable {X : Cx} {K : PySem.W.Frag} {cl : Str → Addr} {W : WX}
theorem ip_fdivC : PIp X .FloorDiv (ipC CDivW fun i j => i / j) := by
  intro pins s σ H x y v u Q I r1 r2 h
  obtain ⟨i, j, e1, e2, hc, q⟩ := h
  exact iop_fdivW pins s σ H x y v u Q I r1 r2 ⟨i, j, e1, e2, hc, q⟩
def cDiv : Int → Int → Bool := fun _ j => decide (0 < j) && decide (j.natAbs.log2 < 9000)
theorem cDiv_ok {a b : Int} (h : cDiv a b = true) : CDivW a b := by simpa [cDiv, CDivW] using h
def fDivmod : List Dt → Option Vl
  | [.i a, .i b] => if (decide (0 < b) && decide (b < 1073741824)) = true then some (.t [.i (a / b), .i (a % b)], .c) else none
  | _ => none
theorem pr_divmod : Pr K (fun xs H Q => ∃ i j, xs = [.int i, .int j] ∧ CDiv i j ∧ ∀ p, H p = none → Q (.ref p) (upd H p (.tup [.int (i / j), .int (i % j)]))) fDivmod := fun M H vs xs x m Q ht c hf k => by
  unfold fDivmod at hf
  split at hf
  · split at hf
    · rename_i h
      cases hf
      simp only [Bool.and_eq_true, decide_eq_true_eq] at h
      obtain ⟨v, w, rfl, c1, c2⟩ := c.two
      exact ⟨_, _, by rw [c1.int, c2.int], ⟨h.1, h.2⟩, fun p hp => k _ _ _ (mk_tup ht hp (.cons (.i _) (.cons (.i _) .nil)))⟩
    · cases hf
  · cases hf
def fLrg : List Dt → Option Vl
  | [.i i, .i j, .i c] => if c = -1 ∧ -(2 ^ 60) ≤ i ∧ i ≤ 2 ^ 60 ∧ -(2 ^ 60) ≤ j ∧ j ≤ 2 ^ 60 ∧ i - j ≤ LIM then some (.l (rngC i (-1) (i - j).toNat), .t) else none
  | _ => none
def rLrg : List V → Hp → VK → Prop := fun vs H Q => ∃ (i j c : Int) (n : Nat), vs = [.int i, .int j, .int c] ∧ RgC i j c n ∧ n ≤ 2 ^ 24 ∧ ∀ q, H q = none → Q (.ref q) (upd H q (.lst ((List.range n).map fun i' => V.int (i + (i' : Nat) * c))))
theorem col_rngC {M : Addr → Prop} {H : Hp} {i c : Int} : ∀ (l : List Nat), CoL K M H (l.map fun i' => V.int (i + (i' : Nat) * c)) (l.map fun (i' : Nat) => .i (i + (i' : Int) * c))
  | [] => .nil
  | a :: l => .cons (.i _) (col_rngC l)
theorem pr_lrg : Pr K rLrg fLrg := fun M H vs xs x m Q ht c hf k => by
  unfold fLrg at hf
  split at hf
  · split at hf
    · rename_i hj
      cases hf
      obtain ⟨v, w, u, rfl, c1, c2, c3⟩ := c.three
      obtain ⟨rfl, h1, h2, h3, h4, h5⟩ := hj
      have h6 : (LIM : Int) = 1000000 := rfl
      exact ⟨_, _, -1, _, by rw [c1.int, c2.int, c3.int], RgC.neg (by omega) (by omega) (by omega) (by omega), by omega, fun l hl => k _ _ _ (mk_lst ht hl (col_rngC _))⟩
    · cases hf
  · cases hf
theorem pe_lrg {a b c : Expr} {ta : TA} {p pos lp lpos : Pos} (hc : X.calm = true) (hl : Gl X "list") (hlm : X.mg "list" = none) (hg : Gl X "range") (hm : X.mg "range" = none) (ha : PA X [a, b, c] ta)
    (hs : starEach [a, b, c] X.env = (false, eval a X.env) :: starEach [b, c] X.env := by rfl) (hpl : (backTo pos (starEach [b, c] X.env)).any (·.1) = false := by rfl)
    (na : starEach [Expr.Call (.Name "range" p) [a, b, c] [] pos] X.env = (false, eval (Expr.Call (.Name "range" p) [a, b, c] [] pos) X.env) :: starEach [] X.env := by rfl) :
    PE X (.Call (.Name "list" lp) [.Call (.Name "range" p) [a, b, c] [] pos] [] lpos) (fun σ H Q => ta σ H fun vs H1 => rLrg vs H1 Q) := by
  refine ⟨fun pins s σ H Q I h => ?_⟩
  refine Call_ (ld_blt I hl hlm boot_list (PyProof.Rows.callWith_type1 (args_cons (Call_ (ld_blt I hg hm boot_range (PyProof.Rows.callWith_type1 (thn (ha.run pos pins s σ H _ I h) fun us s1 ⟨vs, H1, I1, r1, q1⟩ => ?_) hs hpl))) na) na))
  obtain ⟨i, j, k, n, e, ⟨c0, c1, c2, c3⟩, hn, q⟩ := q1
  subst e
  cases r1 with
  | cons r rr =>
    cases rr with
    | cons r' rr =>
      cases rr with
      | cons r'' rr =>
        cases rr
        obtain ⟨t, rfl⟩ := r
        obtain ⟨t', rfl⟩ := r'
        obtain ⟨t'', rfl⟩ := r''
        refine call_range_3 c0 (args_nil ?_) (.inl (PyProof.noPylong_small c1))
        have I2 := I1.kept (h' := s1.heap.push { cls := .type "range", data := .fields #[.int i t, .int j t', .int k t''] }) (t' := s1.toks) fun b u e => Heap.get?_push_of_some _ e
        refine call_list_range (n := n) (I2.ok.hd hc) (IsRange.new ..) c2 c3 hn fun h' tk acc c' hk e' hi => ?_
        have el : acc.toList.length = n := by rw [Array.length_toList]; exact hi.1
        have hv : Vals ((List.range n).map fun i' => V.int (i + (i' : Nat) * k)) acc.toList := by
          rw [← el]
          exact vals_of_get acc.toList _ fun j u hj => hi.2 j u (by rw [← hj, Array.getElem?_toList])
        refine ⟨.ref _, upd H1 _ (.lst ((List.range n).map fun i' => V.int (i + (i' : Nat) * k))), I2.laid hk (Nat.le_refl _) (show ObjOk X.prog X.w _ _ _ (.lst _) from ⟨?_, acc.toList, c', hv, ?_⟩), rfl, q _ (I2.hok.fresh (Nat.le_refl _))⟩
        · rw [List.length_map, List.length_range, sizeLine_eq]; omega
        · rw [Array.toArray_toList]; exact e'
theorem je_lrg {a b c : Expr} {as : List Am} {p pos lp lpos : Pos} (hc : X.calm = true) (hl : Gl X "list") (hlm : X.mg "list" = none) (hg : Gl X "range") (hm : X.mg "range" = none) (ha : JA X cl W [a, b, c] as)
    (hs : starEach [a, b, c] X.env = (false, eval a X.env) :: starEach [b, c] X.env := by rfl) (hpl : (backTo pos (starEach [b, c] X.env)).any (·.1) = false := by rfl)
    (na : starEach [Expr.Call (.Name "range" p) [a, b, c] [] pos] X.env = (false, eval (Expr.Call (.Name "range" p) [a, b, c] [] pos) X.env) :: starEach [] X.env := by rfl) :
    JE X cl W (.Call (.Name "list" lp) [.Call (.Name "range" p) [a, b, c] [] pos] [] lpos) (mP fLrg as) := fun tk => (pe_lrg hc hl hlm hg hm (ha.pa tk) hs hpl na).yimp fun _ _ _ q => mP_ok pr_lrg q
end
end Y
/-! V, part E: for x in (e, ..): the items of a written tuple stay their owner's. -/
namespace Y
open PySem L2 PyProof.Rows
def forH (t : Vl → Ev → Option Ev) (body : Ev → So) : List Vl → Ev → So
  | [], r => .nx r
  | x :: xs, r => match t x r with
    | none => .no
    | some r1 => match body r1 with
      | .nx r2 => forH t body xs r2
      | .ct r2 => forH t body xs r2
      | .bk r2 => .nx r2
      | .rt x r2 => .rt x r2
      | .ex c fs r2 => .ex c fs r2
      | .no => .no
def sForH (fs : List (Ev → Ou Vl)) (t : Vl → Ev → Option Ev) (body : Ev → So) : Ev → So := fun r => match evH fs r with
  | .ok xs r1 => if xs.length ≤ LIM then forH t body xs r1 else .no
  | .ex c fs r1 => .ex c fs r1
  | .no => .no
section
variable {K : PySem.W.Frag} {cl : Str → Addr} {W : WX} {io : Bool} {M M' M0 : Addr → Prop} {H H' H0 : Hp} {G G' G0 : Nat → List Addr} {r r' : Ev} {σ σ' σ0 : L2.St} {D : Ends}
theorem Rp.stay {m : Md} {v : V} {x : Dt} {F : List Addr} (h : Rp K M H m v x F) (f : Fm M H M' H') (st : ∀ b ∈ F, H' b = H b) (hF : ∀ b ∈ F, M b) : Rp K M' H' m v x F := by
  cases m with
  | c => exact ⟨h.1.fm f, h.2⟩
  | t =>
    obtain ⟨a, vs, xs, h1, h2, h3, h4, h5⟩ := h
    exact ⟨a, vs, xs, h1, h2, h3, by rw [st a (by rw [h3]; simp), h4], h5.fm f⟩
  | a =>
    refine Ho.stay (fun b xs q => ?_) (fun b o u q => ?_) h st
    · exact f.rd q (f.hot.nrd q)
    · refine f.keep b _ q fun z => ?_
      obtain ⟨xs, e⟩ := f.hot b z
      rw [q] at e
      cases e
theorem HL.stay : ∀ {vs : List V} {xs : List Vl} {F : List Addr}, HL K M H vs xs F → Fm M H M' H' → (∀ b ∈ F, H' b = H b) → (∀ b ∈ F, M b) → HL K M' H' vs xs F
  | _, _, _, .nil, _, _, _ => .nil
  | _, _, _, .cons rp q, f, st, hF => .cons (rp.stay f (fun b hb => st b (List.mem_append_left _ hb)) fun b hb => hF b (List.mem_append_left _ hb)) (q.stay f (fun b hb => st b (List.mem_append_right _ hb)) fun b hb => hF b (List.mem_append_right _ hb))
theorem HL.lists : ∀ {vs : List V} {xs : List Vl} {F : List Addr}, HL K M H vs xs F → ∀ b ∈ F, ∃ zs, H b = some (.lst zs)
  | _, _, _, .nil, _, z => nomatch z
  | _, _, _, .cons rp q, b, hb => (List.mem_append.mp hb).elim (rp.lists b) (q.lists b)
/-- what is held, beside an environment -/
structure Hd (K : PySem.W.Frag) (M : Addr → Prop) (H : Hp) (G : Nat → List Addr) (vs : List V) (xs : List Vl) (F : List Addr) : Prop where
  hl : HL K M H vs xs F
  nd : F.Nodup
  hot : ∀ b ∈ F, M b ∧ ∀ i, b ∉ G i
theorem Hd.evo {vs : List V} {xs : List Vl} {F F2 : List Addr} (d : Hd K M H G vs xs F) (e : ER K r σ G M H) (a : Evo H M G H' M' G' F2) : Hd K M' H' G' vs xs F := by
  have st : ∀ b ∈ F, H' b = H b := fun b hb => by
    obtain ⟨zs, q⟩ := d.hl.lists b hb
    rw [q]
    exact a.pres b _ q (d.hot b hb).2
  refine ⟨d.hl.stay (e.fm a) st fun b hb => (d.hot b hb).1, d.nd, fun b hb => ⟨a.keep b (d.hot b hb).1 (d.hot b hb).2, fun i hi => ?_⟩⟩
  rcases a.env i b hi with ⟨j, q⟩ | q
  · exact (d.hot b hb).2 j q
  · obtain ⟨zs, z⟩ := d.hl.lists b hb
    rw [z] at q
    cases q
theorem tIS_forH {fs : List (Ev → Ou Vl)} {t : Vl → Ev → Option Ev} {body : Ev → So} {g : TG} (ht : TgOk K io g t) (h : tIS K cl W io (sForH fs t body) D σ H) :
    tFor (iSeq K fun σ H Q => tOs K cl W (fs.map .e) σ H fun vs H1 => rDisp .tup vs H1 Q) g (tIS K cl W io body) D σ H := by
  obtain ⟨r, M, G, e, h⟩ := h
  show tOs K cl W (fs.map .e) σ H _
  refine tOs_hold fs e ?_
  simp only [sForH] at h
  cases hs : evH fs r with
  | no => rw [hs] at h; exact h
  | ex c fs r' => rw [hs] at h; exact fun d H' M' G' p => h d σ H' M' G' ⟨p, fun _ => rfl⟩
  | ok xs r1 =>
    rw [hs] at h
    simp only at h
    intro vs H1 M1 G1 F p
    by_cases hL : xs.length ≤ LIM
    case neg => rw [if_neg hL] at h; exact h.elim
    rw [if_pos hL] at h
    have hl := p.hl.len
    refine ⟨by rw [hl]; exact lim_size hL, fun a ha => ⟨a, rfl, .inr ⟨⟨vs, .inl (.inl upd_same)⟩, ?_⟩⟩⟩
    have gr : ∀ b o, H1 b = some o → upd H1 a (.tup vs) b = some o := fun b o q => by rw [upd_ne (ne_of_none q ha)]; exact q
    obtain ⟨e1, v1⟩ := p.er.grown gr
    have d0 : Hd K M1 (upd H1 a (.tup vs)) G1 vs xs F := Hd.evo ⟨p.hl, p.nd, p.hot⟩ p.er v1
    have vv1 := p.ev.trans e.hot v1
    have wk := walk_tup (K := K) (a := a) (xs := vs)
    refine ⟨fun i m σ' H' => m = xs.length - i ∧ i ≤ xs.length ∧ ∃ r' M' G' F', ER K r' σ' G' M' H' ∧ Evo H M G H' M' G' F' ∧ Hd K M' H' G' (vs.drop i) (xs.drop i) F' ∧ SqT K H' a vs ∧ (io = true → σ'[0]? = σ[0]?) ∧ sEnd K cl W io D σ H M G (forH t body (xs.drop i) r'),
      ⟨xs.length, by simp, Nat.zero_le _, r1, M1, G1, F, e1, ⟨vv1.pres, vv1.dom, vv1.grow, vv1.keep, vv1.env, p.ev.res⟩, by simpa using d0, .inl (.inl upd_same), fun _ => rfl, by simpa using h⟩, ?_⟩
    rintro i m σ' H' ⟨rfl, hi, r', M', G', F', e', v', d', sq, pin', h'⟩
    by_cases hlt : i < xs.length
    · have hlv : i < vs.length := by omega
      refine .inr ⟨wk.goes i H' hlv sq, _, fun σ2 H2 q => ⟨xs.length - (i + 1), by omega, rfl, hlt, q⟩, fun v H2 y => ?_⟩
      obtain ⟨rfl, hv⟩ := wk.yields i H' v H2 hlv sq y
      rw [List.drop_eq_getElem_cons hlt] at h' d'
      rw [List.drop_eq_getElem_cons hlv] at d'
      have hv2 : vs[i] = v := by rw [List.getElem?_eq_getElem hlv] at hv; exact Option.some.inj hv
      rw [hv2] at d'
      generalize xs[i] = xm at h' d'
      obtain ⟨x, md⟩ := xm
      obtain ⟨hh, nd, hot⟩ := d'
      cases hh with
      | @cons _ _ _ _ _ F1 F2 rp q =>
        obtain ⟨n1, n2, n3⟩ := List.nodup_append.mp nd
        simp only [forH] at h'
        cases hk : t (x, md) r' with
        | none => rw [hk] at h'; exact h'.elim
        | some r3 =>
          rw [hk] at h'
          simp only at h'
          refine ht r' σ' G' M' _ v x md F1 r3 _ e' rp n1 (fun b hb => hot b (List.mem_append_left _ hb)) hk fun σ3 H3 M3 G3 er3 pres dom grow keep env pin => ⟨r3, M3, G3, er3, ?_⟩
          have h1M : ∀ b ∈ F1, M' b := fun b hb => (hot b (List.mem_append_left _ hb)).1
          have f3 : Fm M' H2 M3 H3 := ⟨fun b o q hn => pres b o q (fun i hi => hn (e'.sub i b hi)) fun hb => hn (h1M b hb), grow, e'.hot⟩
          have st3 : ∀ b ∈ F2, H3 b = H2 b := fun b hb => by
            obtain ⟨zs, z⟩ := q.lists b hb
            rw [z]
            exact pres b _ z (hot b (List.mem_append_right _ hb)).2 fun c => n3 b c b hb rfl
          have d3 : Hd K M3 H3 G3 (vs.drop (i + 1)) (xs.drop (i + 1)) F2 := by
            refine ⟨q.stay f3 st3 fun b hb => (hot b (List.mem_append_right _ hb)).1, n2, fun b hb => ⟨keep b (hot b (List.mem_append_right _ hb)).1 (hot b (List.mem_append_right _ hb)).2 fun c => n3 b c b hb rfl, fun j hj => ?_⟩⟩
            rcases env j b hj with ⟨j2, c⟩ | c | c
            · exact (hot b (List.mem_append_right _ hb)).2 j2 c
            · exact n3 b c b hb rfl
            · obtain ⟨zs, z⟩ := q.lists b hb
              rw [z] at c
              cases c
          have v3 : Evo H M G H3 M3 G3 F2 := by
            refine ⟨fun b o hb hg => ?_, fun b z => v'.dom b (dom b z), fun b z => ?_, fun b hb hg => ?_, fun j b hb => ?_, fun b hb => v'.res b (List.mem_append_right _ hb)⟩
            · refine pres b o (v'.pres b o hb hg) (fun j hj => ?_) fun c => ?_
              · rcases v'.env j b hj with ⟨j2, z⟩ | z
                · exact hg j2 z
                · rw [hb] at z; cases z
              · rcases v'.res b (List.mem_append_left _ c) with ⟨j2, z⟩ | z
                · exact hg j2 z
                · rw [hb] at z; cases z
            · rcases grow b z with z | z
              · exact v'.grow b z
              · exact .inr (v'.dom b z)
            · refine keep b (v'.keep b hb hg) (fun j hj => ?_) fun c => ?_
              · rcases v'.env j b hj with ⟨j2, z⟩ | z
                · exact hg j2 z
                · obtain ⟨zs, y⟩ := e.hot b hb
                  rw [y] at z; cases z
              · rcases v'.res b (List.mem_append_left _ c) with ⟨j2, z⟩ | z
                · exact hg j2 z
                · obtain ⟨zs, y⟩ := e.hot b hb
                  rw [y] at z; cases z
            · rcases env j b hb with ⟨j2, z⟩ | z | z
              · exact v'.env j2 b z
              · exact v'.res b (List.mem_append_left _ z)
              · exact .inr (v'.dom b z)
          have vv : Evo H M G H3 M3 G3 [] := ⟨v3.pres, v3.dom, v3.grow, v3.keep, v3.env, fun _ z => nomatch z⟩
          have pin3 : io = true → σ3[0]? = σ[0]? := fun z => (pin z).trans (pin' z)
          have sq3 : SqT K H3 a vs := f3.sqT sq
          have nxt : ∀ {r4 : Ev} {σ4 : L2.St} {H4 : Hp} {M4 : Addr → Prop} {G4 : Nat → List Addr}, SX K io r4 σ3 σ4 H3 M3 G3 H4 M4 G4 → sEnd K cl W io D σ H M G (forH t body (xs.drop (i + 1)) r4) →
              ∃ r' M' G' F', ER K r' σ4 G' M' H4 ∧ Evo H M G H4 M' G' F' ∧ Hd K M' H4 G' (vs.drop (i + 1)) (xs.drop (i + 1)) F' ∧ SqT K H4 a vs ∧ (io = true → σ4[0]? = σ[0]?) ∧ sEnd K cl W io D σ H M G (forH t body (xs.drop (i + 1)) r') := fun {r4 σ4 H4 M4 G4} p h5 => by
            have w := v3.trans e.hot p.ev
            exact ⟨r4, M4, G4, F2, p.er, ⟨w.pres, w.dom, w.grow, w.keep, w.env, v3.res⟩, d3.evo er3 p.ev, (er3.fm p.ev).sqT sq3, fun z => (p.pin z).trans (pin3 z), h5⟩
          cases hb : body r3 with
          | nx r4 =>
            rw [hb] at h'
            exact fun σ4 H4 M4 G4 p => nxt p h'
          | ct r4 =>
            rw [hb] at h'
            exact fun σ4 H4 M4 G4 p => nxt p h'
          | bk r4 =>
            rw [hb] at h'
            exact fun σ4 H4 M4 G4 p => h' σ4 H4 M4 G4 ⟨p.er, vv.trans e.hot p.ev, fun z => (p.pin z).trans (pin3 z)⟩
          | rt xm r4 =>
            rw [hb] at h'
            exact sEnd.back (D := D) e.hot vv pin3 (o := .rt xm r4) h'
          | ex c fs r4 =>
            rw [hb] at h'
            exact sEnd.back (D := D) e.hot vv pin3 (o := .ex c fs r4) h'
          | no => rw [hb] at h'; exact h'
    · have he : i = xs.length := by omega
      subst he
      rw [List.drop_length] at h'
      refine .inl ⟨by have := wk.stops H' sq; rwa [hl] at this, h' σ' H' M' G' ⟨e', ⟨v'.pres, v'.dom, v'.grow, v'.keep, v'.env, fun _ z => nomatch z⟩, pin'⟩⟩
end
section
variable {X : Cx} {cl : Str → Addr} {W : WX} {io : Bool}
theorem js_forH {tg : Expr} {es : List Expr} {k : Nat} {tpos : Pos} {body : List Stmt} {fs : List (Ev → Ou Vl)} {g : TG} {t : Vl → Ev → Option Ev} {f : Ev → So} {pos : Pos} (hp : PassesOwn (model X.prog X.w) X.A X.env X.xe) (hc : X.calm = true) (hi : JH X cl W es fs) (hg : PG X tg g) (ht : TgOk X.K io g t) (hb : JB X cl W io body f)
    (hs : ∀ x, foldedSetIterable (.Tuple es k tpos) X.env x = pure x := by intro _; rfl) : JS X cl W io (.For tg (.Tuple es k tpos) body [] pos) (sForH fs t f) := fun tk => (ps_for hp hc (pi_seq (pe_tup (hi.ja.pa tk))) hg (hb tk) hs).yimp fun _ _ _ q => tIS_forH ht q
end
end Y
/-! V, part F: a list within owned lists is turned round: name[e]..[e].reverse(). -/
namespace Y
open PySem L2 PyProof.Rows
section
variable {K : PySem.W.Frag} {cl : Str → Addr} {W : WX} {io : Bool} {M M' M0 : Addr → Prop} {H H' H0 : Hp} {G G' G0 : Nat → List Addr} {r r' : Ev} {σ σ0 : L2.St} {D : Ends}
def rvP : Dt → List Int → Option Dt
  | .l xs, [] => if flatL xs = true then some (.l xs.reverse) else none
  | .l xs, k :: ks => (ixN xs.length k).bind fun j => (xs[j]?).bind fun x => (rvP x ks).map fun x' => .l (xs.set j x')
  | _, _ => none
theorem HoL.rev : ∀ {vs : List V} {xs : List Dt} {F : List Addr}, HoL K H vs xs F → flatL xs = true → HoL K H vs.reverse xs.reverse []
  | [], [], _, h, _ => .nil
  | v :: vs, x :: xs, _, .cons h1 h2, hf => by
    simp only [flatL, Bool.and_eq_true] at hf
    have e := h1.flatE hf.1
    subst e
    rw [List.reverse_cons, List.reverse_cons]
    exact (HoL.rev h2 hf.2).snoc h1
theorem ho_rv {l : Addr} {zs : List V} {ys : List Dt} {v : V} {x : Dt} {ks : List Int} {u : V} {t : Dt} (h : At H v x ks u t) (hu : u = .ref l) (ht : t = .l ys) (hl : H l = some (.lst zs)) (hf : flatL ys = true) : ∀ {F : List Addr}, Ho K H v x F → F.Nodup →
    ∃ x', rvP x ks = some x' ∧ Ho K (upd H l (.lst zs.reverse)) v x' F ∧ l ∈ F := by
  have hup : ∀ {v : V} {x : Dt} {F : List Addr}, Ho K H v x F → l ∉ F → Ho K (upd H l (.lst zs.reverse)) v x F := fun h n => h.up hl n
  induction h with
  | nil =>
    intro F h nd
    subst hu; subst ht
    cases h with
    | @l _ _ _ F1 h1 h2 =>
      rw [hl] at h1; cases h1
      have e := h2.flatE hf
      subst e
      refine ⟨.l ys.reverse, by simp [rvP, hf], .l upd_same ?_, List.mem_cons_self⟩
      exact (h2.rev hf).up (u := .lst zs.reverse) hl (by simp)
  | @cons a us xs k ks v' w' x' y' q1 q2 q3 q4 ih =>
    intro F h nd
    cases h with
    | @l _ _ _ F1 h1 h2 =>
      rw [q1] at h1; cases h1
      obtain ⟨n1, n2⟩ := List.nodup_cons.mp nd
      unfold atI at q2 q3
      rw [h2.len] at q2
      cases hj : ixN xs.length k with
      | none => rw [hj] at q3; cases q3
      | some j =>
        rw [hj] at q2 q3
        have q2 : us[j]? = some v' := q2
        have q3 : xs[j]? = some x' := q3
        have go : ∀ {us : List V} {xs : List Dt} {F : List Addr} {j : Nat}, HoL K H us xs F → F.Nodup → us[j]? = some v' → xs[j]? = some x' → ∃ x2, rvP x' ks = some x2 ∧ HoL K (upd H l (.lst zs.reverse)) us (xs.set j x2) F ∧ l ∈ F := by
          intro us
          induction us with
          | nil => intro xs F j h _ e; cases h; simp at e
          | cons u us ihu =>
            intro xs F j h nd e1 e2
            cases h with
            | @cons _ _ _ _ Fa Fb h1 h2 =>
              obtain ⟨m1, m2, m3⟩ := List.nodup_append.mp nd
              cases j with
              | zero =>
                simp at e1 e2
                subst e1; subst e2
                obtain ⟨x2, z1, z2, z3⟩ := ih hu ht h1 m1
                exact ⟨x2, z1, .cons z2 (h2.up hl fun hb => m3 _ z3 _ hb rfl), List.mem_append_left _ z3⟩
              | succ j =>
                obtain ⟨x2, z1, z2, z3⟩ := ihu h2 m2 (j := j) (by simpa using e1) (by simpa using e2)
                exact ⟨x2, z1, .cons (hup h1 fun hb => m3 _ hb _ z3 rfl) z2, List.mem_append_right _ z3⟩
        obtain ⟨x2, z1, z2, z3⟩ := go h2 n2 q2 q3
        have la : a ≠ l := fun q => n1 (q ▸ z3)
        refine ⟨.l (xs.set j x2), by simp [rvP, hj, q3, z1], .l (by rw [upd_ne la]; exact q1) z2, List.mem_cons_of_mem _ z3⟩
/-- name[e]..[e].reverse(), all lists of the name owned; what is turned is flat -/
def sRevN (i : Nat) (fs : List (Ev → Ou Vl)) : Ev → So := fun r => match r[i]? with
  | some (some (x0, .a)) => match evK fs (r.set i none) with
    | some (ks, r1) => match getP x0 ks with
      | some (.l ys) => if flatL ys = true then match rvP x0 ks with
          | some x' => .nx (r1.set i (some (x', .a)))
          | none => .no
        else .no
      | _ => .no
    | none => .no
  | _ => .no
end
section
variable {X : Cx} {cl : Str → Addr} {W : WX} {io : Bool}
theorem js_revN {o : Expr} {fs : List (Ev → Ou Vl)} {ap cp pos : Pos} {i : Nat} (ho : JPa X cl W o i fs) (hbase : attributeBase o "reverse" X.env (eval o X.env) = eval o X.env := by rfl)
    (hline : (ap.endLine == cp.line) = true := by rfl) (hsw : swapsWith (.Call (.Attribute o "reverse" ap) [] [] cp) none pos.line X.env = pure false := by rfl) :
    JS X cl W io (.Expr (.Call (.Attribute o "reverse" ap) [] [] cp) pos) (sRevN i fs) := fun tk =>
  (ps_expr (pe_bm0 PySem.F.plainAttrs_list PySem.F.slot_list_reverse PySem.F.type_list_reverse mt_reverse (ho tk) hbase hline) hsw).yimp fun D σ H ⟨r, M, G, e, q⟩ => by
    simp only [sRevN] at q
    split at q
    · rename_i x0 hr
      obtain ⟨v0, hv, rp0⟩ := e.at_ i x0 .a hr
      have rp0 : Ho X.K H v0 x0 (G i) := rp0
      split at q
      · rename_i ks r1 hk
        split at q
        · rename_i ys hg
          have ed := e.drop i
          have kd : ∀ b ∈ G i, M b ∧ ∀ j, b ∉ (fun j => if j = i then [] else G j) j := fun b hb => ⟨e.sub i b hb, fun j hj => by
            by_cases z : j = i
            · simp [z] at hj
            · simp only [if_neg z] at hj
              exact e.dj j i z b hj hb⟩
          split at q
          · rename_i hfl
            refine path_ok hv fs ed rp0 kd hk hg fun w H1 M1 G1 F1 e1 v1 o1 k1 s1 a1 => ?_
            obtain ⟨Fw, hw, sw⟩ := a1.ho o1
            cases hw with
            | @l l us _ F2 hh c =>
              obtain ⟨x', z1, z2, z3⟩ := ho_rv a1 rfl rfl hh hfl o1 (e.nd i)
              rw [z1] at q
              refine ⟨ty_list hh, l, us, rfl, rfl, hh, ?_⟩
              have lM := (k1 l z3).1
              have e3 : ER X.K r1 σ G1 M1 (upd H1 l (.lst us.reverse)) := e1.evoF (fun b o h z => by
                have : b ≠ l := fun y => by
                  rcases z with z | ⟨j, z⟩
                  · exact z (y ▸ lM)
                  · exact (k1 l z3).2 j (y ▸ z)
                rw [upd_ne this]; exact h) (fun b z => .inl z) (fun j b hb => e1.sub j b hb) (hot_up e1.hot)
              have e4 := put_back hv e3 (m := .a) z2 (e.nd i) k1
              have v2 := v1
              have gd : ∀ {b : Addr} {j : Nat}, b ∈ (fun j => if j = i then [] else G j) j → b ∈ G j := fun {b j} hb => by
                by_cases z : j = i
                · simp [z] at hb
                · simpa [z] using hb
              have nl : ∀ {b : Addr}, (∀ j, b ∉ G j) → b ≠ l := fun {b} hb z => hb i (z ▸ z3)
              exact q σ _ M1 _ ⟨e4, ⟨fun b o h hb => by rw [upd_ne (nl hb)]; exact v2.pres b o h fun j hj => hb j (gd hj), fun b h => by
                by_cases z : b = l
                · rw [z, upd_same] at h; cases h
                · rw [upd_ne z] at h; exact v2.dom b h, v2.grow, fun b h hb => v2.keep b h fun j hj => hb j (gd hj), fun j b hb => by
                by_cases z : j = i
                · simp only [if_pos z] at hb; exact .inl ⟨i, hb⟩
                · simp only [if_neg z] at hb
                  exact (v2.env j b hb).imp (fun ⟨j', z'⟩ => ⟨j', gd z'⟩) id, fun _ z => nomatch z⟩, fun _ => rfl⟩
          · exact q.elim
        · exact q.elim
      · exact q.elim
    · exact q.elim
end
end Y
/-! W: what is asked of a mirror, step by step. -/
namespace Y
open PySem L2 PyProof.Rows
def wE (f : Ev → Ou Vl) (r : Ev) (Q : Vl → Ev → Prop) : Prop := match f r with
  | .ok x r' => Q x r'
  | _ => False
def wT (f : Ev → Ou Bool) (r : Ev) (Q : Bool → Ev → Prop) : Prop := match f r with
  | .ok x r' => Q x r'
  | _ => False
def wI (f : Ev → Ou (List Dt)) (r : Ev) (Q : List Dt → Ev → Prop) : Prop := match f r with
  | .ok x r' => Q x r'
  | _ => False
def wS (g : Ev → So) (r : Ev) (Qn : Ev → Prop) (Qr : Vl → Ev → Prop) (Qb Qc : Ev → Prop) : Prop := match g r with
  | .nx r' => Qn r'
  | .rt x r' => Qr x r'
  | .bk r' => Qb r'
  | .ct r' => Qc r'
  | _ => False
def wA (as : List Am) (r : Ev) (Q : List Ag → Ev → Prop) : Prop := match evA as r with
  | .ok x r' => Q x r'
  | _ => False
def wO (o : Option Vl) (Q : Dt → Md → Prop) : Prop := match o with
  | some (x, m) => Q x m
  | none => False
def wL (o : Option (List Dt)) (Q : List Dt → Prop) : Prop := match o with
  | some x => Q x
  | none => False
def wG (o : Option (Option Vl)) (Q : Dt → Md → Prop) : Prop := match o with
  | some (some (x, m)) => Q x m
  | _ => False
def wK (o : Option Ev) (Q : Ev → Prop) : Prop := match o with
  | some r => Q r
  | none => False
def wFn (f : Fn) (xs : List Vl) (Q : Vl → Vl → Prop) : Prop := match f xs with
  | .rt x z => Q x z
  | _ => False
def wX (o : Option (Option Vl)) (P : Prop) (Q : Dt → Prop) : Prop := match o with
  | some (some (x, _)) => Q x
  | _ => P
/-- a slot given a value; then .. -/
def setK (r : Ev) (i : Nat) (o : Option Vl) (Q : Ev → Prop) : Prop := Q (r.set i o)
def wB (b : Bool) (P Q : Prop) : Prop := if b = true then P else Q
def frzK (ys : List Ag) (r : Ev) (Q : Ev → Prop) : Prop := Q (frz ys r)
def wZ (x : Dt) (ys : List Ag) (r : Ev) (Q : Ev → Prop) : Prop := Q (if x.flat then r else frz ys r)
def wM (x : Vl) (ys : List Ag) (r : Ev) (Q : Ev → Prop) : Prop := Q (if zfl x then r else frz ys r)
def isC : Option (Option Vl) → Bool
  | some (some (_, .c)) => true
  | some (some _) => false
  | _ => true
def allC : List Ag → Ev → Bool
  | [], _ => true
  | .d _ :: ys, r => allC ys r
  | .v i :: ys, r => isC r[i]? && allC ys r
theorem frz_c : ∀ {ys : List Ag} {r : Ev}, allC ys r = true → frz ys r = r
  | [], _, _ => rfl
  | .d _ :: ys, r, h => frz_c (ys := ys) h
  | .v i :: ys, r, h => by
    simp only [allC, Bool.and_eq_true] at h
    simp only [frz]
    cases e : r[i]? with
    | none => exact frz_c h.2
    | some o =>
      cases o with
      | none => exact frz_c h.2
      | some xm =>
        obtain ⟨x, m⟩ := xm
        have hm : m = .c := by
          have := h.1
          rw [e] at this
          cases m <;> simp [isC] at this ⊢
        subst hm
        have : r.set i (some (x, .c)) = r := by
          apply List.ext_getElem?
          intro j
          by_cases q : i = j
          · subst q; rw [List.getElem?_set_self (List.getElem?_eq_some_iff.mp e).1, e]
          · rw [List.getElem?_set_ne q]
        simp only [this]
        exact frz_c h.2
section
variable {f g : Ev → Ou Vl} {c d : Ev → Ou Bool} {s u : Ev → So} {r : Ev} {Q : Vl → Ev → Prop} {QT : Bool → Ev → Prop} {QI : List Dt → Ev → Prop} {Qn Qb Qc : Ev → Prop} {Qr : Vl → Ev → Prop} {QA : List Ag → Ev → Prop} {i n : Nat} {x : Dt} {m : Md} {as : List Am} {fn : Fn} {p : List Dt → Option Vl}
@[simp] theorem wO_some {Q : Dt → Md → Prop} : wO (some (x, m)) Q = Q x m := id rfl
@[simp] theorem wO_none {Q : Dt → Md → Prop} : wO none Q = False := id rfl
@[simp] theorem wL_some {Q : List Dt → Prop} {xs : List Dt} : wL (some xs) Q = Q xs := id rfl
@[simp] theorem wL_none {Q : List Dt → Prop} : wL none Q = False := id rfl
@[simp] theorem wG_some {Q : Dt → Md → Prop} : wG (some (some (x, m))) Q = Q x m := id rfl
@[simp] theorem wK_some {Q : Ev → Prop} : wK (some r) Q = Q r := id rfl
@[simp] theorem wK_none {Q : Ev → Prop} : wK none Q = False := id rfl
@[simp] theorem setK_0 {o o' : Option Vl} {Q : Ev → Prop} : setK (o' :: r) 0 o Q = Q (o :: r) := id rfl
@[simp] theorem setK_s {o o' : Option Vl} {Q : Ev → Prop} : setK (o' :: r) (i + 1) o Q = setK r i o fun r1 => Q (o' :: r1) := id rfl
@[simp] theorem wB_t {P Q : Prop} : wB true P Q = P := id rfl
@[simp] theorem wB_f {P Q : Prop} : wB false P Q = Q := by simp [wB]
@[simp] theorem wG_0 {Q : Dt → Md → Prop} : wG (some (x, m) :: r)[0]? Q = Q x m := id rfl
@[simp] theorem wG_s {Q : Dt → Md → Prop} {o : Option Vl} : wG (o :: r)[i + 1]? Q = wG r[i]? Q := id rfl
@[simp] theorem isC_0 : isC (some (x, .c) :: r)[0]? = true := id rfl
@[simp] theorem isC_1 : isC (some (x, .t) :: r)[0]? = false := id rfl
@[simp] theorem isC_2 : isC (some (x, .a) :: r)[0]? = false := id rfl
@[simp] theorem isC_s {o : Option Vl} : isC (o :: r)[i + 1]? = isC r[i]? := id rfl
@[simp] theorem allC_n : allC [] r = true := id rfl
@[simp] theorem allC_d {ys : List Ag} : allC (.d x :: ys) r = allC ys r := id rfl
@[simp] theorem allC_v {ys : List Ag} : allC (.v i :: ys) r = (isC r[i]? && allC ys r) := id rfl
@[simp] theorem frzK_n {Q : Ev → Prop} : frzK [] r Q = Q r := id rfl
@[simp] theorem frzK_d {Q : Ev → Prop} {ys : List Ag} : frzK (.d x :: ys) r Q = frzK ys r Q := id rfl
@[simp] theorem frzK_c {Q : Ev → Prop} {ys : List Ag} (h : allC ys r = true) : frzK ys r Q = Q r := by unfold frzK; rw [frz_c h]
theorem frzK_v {Q : Ev → Prop} {ys : List Ag} {o : Vl} (h : r[i]? = some (some o)) : frzK (.v i :: ys) r Q = setK r i (some (o.1, .c)) fun r1 => frzK ys r1 Q := by
  unfold frzK setK
  simp only [frz, h]
@[simp] theorem frzK_w {Q : Ev → Prop} {ys : List Ag} : frzK (.v i :: ys) r Q = wX r[i]? (frzK ys r Q) fun x => setK r i (some (x, .c)) fun r1 => frzK ys r1 Q := by
  unfold wX
  cases h : r[i]? with
  | none => unfold frzK; simp only [frz, h]
  | some o =>
    cases o with
    | none => unfold frzK; simp only [frz, h]
    | some o => exact frzK_v h
@[simp] theorem wX_0 {P : Prop} {Q : Dt → Prop} : wX (some (x, m) :: r)[0]? P Q = Q x := id rfl
@[simp] theorem wX_s {P : Prop} {Q : Dt → Prop} {o : Option Vl} : wX (o :: r)[i + 1]? P Q = wX r[i]? P Q := id rfl
@[simp] theorem wZ_c {Q : Ev → Prop} {ys : List Ag} (h : allC ys r = true) : wZ x ys r Q = Q r := by unfold wZ; rw [frz_c h, ite_self]
@[simp] theorem wZ_i {Q : Ev → Prop} {ys : List Ag} {a : Int} : wZ (.i a) ys r Q = Q r := id rfl
@[simp] theorem wZ_b {Q : Ev → Prop} {ys : List Ag} {a : Bool} : wZ (.b a) ys r Q = Q r := id rfl
@[simp] theorem wZ_u {Q : Ev → Prop} {ys : List Ag} {a : Str} : wZ (.s a) ys r Q = Q r := id rfl
@[simp] theorem wZ_n {Q : Ev → Prop} {ys : List Ag} : wZ .n ys r Q = Q r := id rfl
@[simp] theorem wZ_l {Q : Ev → Prop} {ys : List Ag} {xs : List Dt} : wZ (.l xs) ys r Q = frzK ys r Q := id rfl
@[simp] theorem wZ_t {Q : Ev → Prop} {ys : List Ag} {xs : List Dt} : wZ (.t xs) ys r Q = wB (flatL xs) (Q r) (frzK ys r Q) := by
  unfold wZ wB frzK
  simp only [Dt.flat]
  by_cases h : flatL xs = true <;> simp [h]
@[simp] theorem wM_c {Q : Ev → Prop} {ys : List Ag} {y : Vl} (h : allC ys r = true) : wM y ys r Q = Q r := by unfold wM; rw [frz_c h, ite_self]
@[simp] theorem wM_i {Q : Ev → Prop} {ys : List Ag} {a : Int} : wM (.i a, m) ys r Q = Q r := by cases m <;> exact id rfl
@[simp] theorem wM_b {Q : Ev → Prop} {ys : List Ag} {a : Bool} : wM (.b a, m) ys r Q = Q r := by cases m <;> exact id rfl
@[simp] theorem wM_u {Q : Ev → Prop} {ys : List Ag} {a : Str} : wM (.s a, m) ys r Q = Q r := by cases m <;> exact id rfl
@[simp] theorem wM_n {Q : Ev → Prop} {ys : List Ag} : wM (.n, m) ys r Q = Q r := by cases m <;> exact id rfl
@[simp] theorem wM_a {Q : Ev → Prop} {ys : List Ag} : wM (x, .a) ys r Q = Q r := by unfold wM zfl; simp
@[simp] theorem wM_lc {Q : Ev → Prop} {ys : List Ag} {xs : List Dt} : wM (.l xs, .c) ys r Q = frzK ys r Q := id rfl
@[simp] theorem wM_lt {Q : Ev → Prop} {ys : List Ag} {xs : List Dt} : wM (.l xs, .t) ys r Q = wB (flatL xs) (Q r) (frzK ys r Q) := by
  unfold wM wB frzK
  simp only [zfl]
  by_cases h : flatL xs = true <;> simp [h]
@[simp] theorem wM_tc {Q : Ev → Prop} {ys : List Ag} {xs : List Dt} : wM (.t xs, .c) ys r Q = wB (flatL xs) (Q r) (frzK ys r Q) := by
  unfold wM wB frzK
  simp only [zfl, Dt.flat]
  by_cases h : flatL xs = true <;> simp [h]
theorem wM_f {Q : Ev → Prop} {ys : List Ag} {y : Vl} (h : zfl y = true) : wM y ys r Q = Q r := by unfold wM; rw [if_pos h]
@[simp] theorem wLk_n {Q : List Dt → Prop} : wL (look r []) Q = Q [] := id rfl
@[simp] theorem wLk_d {Q : List Dt → Prop} {ys : List Ag} : wL (look r (.d x :: ys)) Q = wL (look r ys) fun xs => Q (x :: xs) := by
  unfold wL
  simp only [look]
  cases look r ys <;> rfl
@[simp] theorem wLk_v {Q : List Dt → Prop} {ys : List Ag} : wL (look r (.v i :: ys)) Q = wG r[i]? fun x _ => wL (look r ys) fun xs => Q (x :: xs) := by
  unfold wL wG
  simp only [look]
  cases r[i]? with
  | none => rfl
  | some o =>
    cases o with
    | none => rfl
    | some xm =>
      simp only
      cases look r ys <;> rfl
/-! operands -/
@[simp] theorem wA_nil : wA [] r QA = QA [] r := id rfl
@[simp] theorem wA_e : wA (.e f :: as) r QA = wE f r fun x r1 => wA as r1 fun ys r2 => QA (.d x.1 :: ys) r2 := by
  unfold wA wE
  simp only [evA]
  cases f r with
  | ok x r1 =>
    obtain ⟨x, m⟩ := x
    simp only
    cases evA as r1 <;> rfl
  | ex _ _ _ => rfl
  | no => rfl
@[simp] theorem wA_v : wA (.v i :: as) r QA = wG r[i]? fun _ _ => wA as r fun ys r2 => QA (.v i :: ys) r2 := by
  unfold wA wG
  simp only [evA]
  cases h : r[i]? with
  | none => rfl
  | some o =>
    cases o with
    | none => rfl
    | some xm => cases evA as r <;> rfl
/-! expressions -/
@[simp] theorem wE_K : wE (mK x) r Q = Q (x, .c) r := id rfl
@[simp] theorem wE_V : wE (mV i) r Q = wG r[i]? fun x _ => wZ x [.v i] r (Q (x, .c)) := by
  unfold wE wG wZ
  simp only [mV, frz]
  cases h : r[i]? with
  | none => rfl
  | some o => cases o <;> rfl
@[simp] theorem wE_P : wE (mP p as) r Q = wA as r fun ys r1 => wL (look r1 ys) fun xs => wO (p xs) fun x m => wZ x ys r1 (Q (x, m)) := by
  unfold wE wA wL wO wZ
  simp only [mP]
  cases evA as r with
  | ok ys r1 =>
    simp only
    cases look r1 ys with
    | none => rfl
    | some xs =>
      simp only
      cases p xs <;> rfl
  | ex _ _ _ => rfl
  | no => rfl
@[simp] theorem wE_C : wE (mC fn as) r Q = wA as r fun ys r1 => wL (look r1 ys) fun xs => wFn fn (cold xs) fun x _ => wM x ys r1 (Q x) := by
  unfold wE wA wL wFn wM
  simp only [mC]
  cases evA as r with
  | ok ys r1 =>
    simp only
    cases look r1 ys with
    | none => rfl
    | some xs =>
      simp only
      cases fn (cold xs) with
      | rt x z => rfl
      | ex c fs z => by_cases q : flatF fs = true <;> simp [q]
      | no => rfl
  | ex _ _ _ => rfl
  | no => rfl
@[simp] theorem wE_CK {ps : List Nat} : wE (mCK fn ps as) r Q = wA as r fun ys r1 => wL (look r1 ys) fun xs => wFn fn (pick ps (.n, .c) (cold xs)) fun x _ => wM x ys r1 (Q x) := wE_C
@[simp] theorem wE_CI : wE (mCI fn i as) r Q = wA (.v i :: as) r fun ys r1 => wG r1[i]? fun x0 m0 => setK r1 i none fun r2 => wL (look r2 ys.tail) fun xs => wFn fn ((x0, m0) :: cold xs) fun x z => wB (zfl x && zfl z || allC ys.tail r2) (setK r2 i (some z) (Q x)) (frzK ys.tail r2 fun r3 => setK r3 i (some z) (Q x)) := by
  unfold wE setK wB frzK
  conv => rhs; unfold wA
  simp only [mCI]
  cases evA (.v i :: as) r with
  | ok ys r1 =>
    simp only
    cases h : r1[i]? with
    | none => rfl
    | some o =>
      cases o with
      | none => rfl
      | some xm =>
        obtain ⟨x0, m0⟩ := xm
        simp only [wG_some]
        cases look (r1.set i none) ys.tail with
        | none => rfl
        | some xs =>
          simp only [wL_some]
          unfold wFn
          cases fn ((x0, m0) :: cold xs) with
          | rt x z =>
            obtain ⟨x, m⟩ := x
            simp only
            by_cases q : (zfl (x, m) && zfl z) = true
            · simp [q]
            · by_cases q2 : allC ys.tail (r1.set i none) = true
              · simp only [q, q2, Bool.or_true, if_true, frz_c q2]; simp
              · simp [q, q2]
          | ex c fs z => by_cases q : (flatF fs && zfl z) = true <;> simp [q]
          | no => rfl
  | ex _ _ _ => rfl
  | no => rfl
@[simp] theorem wE_CM : wE (mCM fn f as) r Q = wE f r fun xm r1 => wA as r1 fun ys r2 => wL (look r2 ys) fun xs => wFn fn (xm :: cold xs) fun x z => wB (zfl x && zfl z || allC ys r2) (Q x r2) (frzK ys r2 (Q x)) := by
  unfold wE wB frzK
  simp only [mCM]
  cases f r with
  | ok xm r1 =>
    simp only
    unfold wA
    cases evA as r1 with
    | ok ys r2 =>
      simp only
      cases look r2 ys with
      | none => rfl
      | some xs =>
        simp only [wL_some]
        unfold wFn
        cases fn (xm :: cold xs) with
        | rt x z =>
          obtain ⟨x, m⟩ := x
          simp only
          by_cases q : (zfl (x, m) && zfl z) = true
          · simp [q]
          · by_cases q2 : allC ys r2 = true
            · simp only [q, q2, Bool.or_true, if_true, frz_c q2]; simp
            · simp [q, q2]
        | ex c fs z => by_cases q : (flatF fs && zfl z) = true <;> simp [q]
        | no => rfl
    | ex _ _ _ => rfl
    | no => rfl
  | ex _ _ _ => rfl
  | no => rfl
@[simp] theorem wE_If : wE (mIf c f g) r Q = wT c r fun b r1 => (b = true → wE f r1 Q) ∧ (b = false → wE g r1 Q) := by
  unfold wE wT
  simp only [mIf]
  cases c r with
  | ok b r1 => cases b <;> simp
  | ex _ _ _ => rfl
  | no => rfl
@[simp] theorem wE_And : wE (mAndV f g) r Q = wE f r fun x r1 => match x.1 with
    | .b k => (k = true → wE g r1 Q) ∧ (k = false → Q (.b false, .c) r1)
    | _ => False := by
  unfold wE
  simp only [mAndV]
  cases f r with
  | ok x r1 =>
    obtain ⟨x, m⟩ := x
    cases x with
    | b k => cases k <;> simp
    | _ => rfl
  | ex _ _ _ => rfl
  | no => rfl
@[simp] theorem wE_Or : wE (mOrV f g) r Q = wE f r fun x r1 => match x.1 with
    | .b k => (k = true → Q (.b true, .c) r1) ∧ (k = false → wE g r1 Q)
    | _ => False := by
  unfold wE
  simp only [mOrV]
  cases f r with
  | ok x r1 =>
    obtain ⟨x, m⟩ := x
    cases x with
    | b k => cases k <;> simp
    | _ => rfl
  | ex _ _ _ => rfl
  | no => rfl
@[simp] theorem wE_Not : wE (mNotV f) r Q = wE f r fun x r1 => match x.1 with
    | .b k => Q (.b (!k), .c) r1
    | _ => False := by
  unfold wE
  simp only [mNotV]
  cases f r with
  | ok x r1 =>
    obtain ⟨x, m⟩ := x
    cases x <;> rfl
  | ex _ _ _ => rfl
  | no => rfl
@[simp] theorem wE_Lc {own : Bool} {vs : List Nat} {q : Ev → Ou (List Dt)} {t : Vl → Ev → Option Ev} : wE (mLc own vs q t c f) r Q = wI q r fun xs r1 => xs.length ≤ LIM ∧ ∃ ys r2, lcL vs t c f own xs (wipeE r1 vs) [] = .ok ys r2 ∧ Q (.l ys, if own then .a else .t) (rsE r1 vs r2) := by
  unfold wE wI
  simp only [mLc]
  cases q r with
  | ok xs r1 =>
    simp only
    by_cases h : xs.length ≤ LIM
    · rw [if_pos h]
      cases e : lcL vs t c f own xs (wipeE r1 vs) [] with
      | ok ys r2 =>
        simp only [eq_iff_iff]
        exact ⟨fun z => ⟨h, ys, r2, rfl, z⟩, fun ⟨_, ys', r', h1, h2⟩ => by cases h1; exact h2⟩
      | ex _ _ _ => simp
      | no => simp
    · simp [h]
  | ex _ _ _ => rfl
  | no => rfl
/-- slices -/
def wP (o : Option (Ev → Ou Vl)) (r : Ev) (Q : Option Int → Ev → Prop) : Prop := match evP o r with
  | .ok x r' => Q x r'
  | _ => False
@[simp] theorem wP_none {Q : Option Int → Ev → Prop} : wP none r Q = Q none r := id rfl
@[simp] theorem wP_some {Q : Option Int → Ev → Prop} : wP (some f) r Q = wE f r fun x r1 => match x.1 with
    | .i k => Q (some k) r1
    | _ => False := by
  unfold wP wE
  simp only [evP]
  cases f r with
  | ok x r1 =>
    obtain ⟨x, m⟩ := x
    cases x <;> rfl
  | ex _ _ _ => rfl
  | no => rfl
/-! tests -/
@[simp] theorem wT_Te : wT (mTe f) r QT = wE f r fun x r1 => match x.1 with
    | .b k => QT k r1
    | _ => False := by
  unfold wT wE
  simp only [mTe]
  cases f r with
  | ok x r1 =>
    obtain ⟨x, m⟩ := x
    cases x <;> rfl
  | ex _ _ _ => rfl
  | no => rfl
@[simp] theorem wT_Not : wT (mNot c) r QT = wT c r fun k r1 => QT (!k) r1 := by
  unfold wT
  simp only [mNot]
  cases c r <;> rfl
@[simp] theorem wT_And : wT (mAnd c d) r QT = wT c r fun k r1 => (k = true → wT d r1 QT) ∧ (k = false → QT false r1) := by
  unfold wT
  simp only [mAnd]
  cases c r with
  | ok k r1 => cases k <;> simp
  | ex _ _ _ => rfl
  | no => rfl
@[simp] theorem wT_Or : wT (mOr c d) r QT = wT c r fun k r1 => (k = true → QT true r1) ∧ (k = false → wT d r1 QT) := by
  unfold wT
  simp only [mOr]
  cases c r with
  | ok k r1 => cases k <;> simp
  | ex _ _ _ => rfl
  | no => rfl
@[simp] theorem wT_Yes : wT mYes r QT = QT true r := id rfl
/-! sources -/
@[simp] theorem wI_S {q : List Dt → Option (List Dt)} : wI (mS q as) r QI = wA as r fun ys r1 => wL (look r1 ys) fun xs => wL (q xs) fun ds => frzK ys r1 (QI ds) := by
  unfold wI wA wL frzK
  simp only [mS]
  cases evA as r with
  | ok ys r1 =>
    simp only
    cases look r1 ys with
    | none => rfl
    | some xs =>
      simp only
      cases q xs <;> rfl
  | ex _ _ _ => rfl
  | no => rfl
/-! statements -/
@[simp] theorem wS_seq : wS (sSeq s u) r Qn Qr Qb Qc = wS s r (fun r1 => wS u r1 Qn Qr Qb Qc) Qr Qb Qc := by
  unfold wS
  simp only [sSeq]
  cases s r <;> rfl
@[simp] theorem wS_nx : wS sNx r Qn Qr Qb Qc = Qn r := id rfl
@[simp] theorem wS_bk : wS sBk r Qn Qr Qb Qc = Qb r := id rfl
@[simp] theorem wS_ct : wS sCt r Qn Qr Qb Qc = Qc r := id rfl
@[simp] theorem wS_no : wS sNo r Qn Qr Qb Qc = False := id rfl
@[simp] theorem wS_asg {t : Vl → Ev → Option Ev} : wS (sAsg f t) r Qn Qr Qb Qc = wE f r fun x r1 => wK (t x r1) Qn := by
  unfold wS wE
  simp only [sAsg, sWith]
  cases f r with
  | ok x r1 =>
    simp only
    cases h : t x r1 <;> simp
  | ex _ _ _ => rfl
  | no => rfl
@[simp] theorem wS_expr : wS (sExpr f) r Qn Qr Qb Qc = wE f r fun _ r1 => Qn r1 := by
  unfold wS wE
  simp only [sExpr, sWith]
  cases f r <;> rfl
@[simp] theorem wS_ret : wS (sRet f) r Qn Qr Qb Qc = wE f r Qr := by
  unfold wS wE
  simp only [sRet, sWith]
  cases f r <;> rfl
@[simp] theorem wS_retV : wS (sRetV i) r Qn Qr Qb Qc = wG r[i]? fun x m => setK r i none (Qr (x, m)) := by
  unfold wS wG setK
  simp only [sRetV]
  cases r[i]? with
  | none => rfl
  | some o => cases o <;> rfl
@[simp] theorem wS_retN : wS sRetN r Qn Qr Qb Qc = Qr (.n, .c) r := id rfl
@[simp] theorem wS_if : wS (sIf c s u) r Qn Qr Qb Qc = wT c r fun b r1 => (b = true → wS s r1 Qn Qr Qb Qc) ∧ (b = false → wS u r1 Qn Qr Qb Qc) := by
  unfold wS wT
  simp only [sIf]
  cases c r with
  | ok b r1 => cases b <;> simp
  | ex _ _ _ => rfl
  | no => rfl
@[simp] theorem wLen_0 {o : Option Vl} : (0 < (o :: r).length) = True := by simp
@[simp] theorem wLen_s {o : Option Vl} : (i + 1 < (o :: r).length) = (i < r.length) := by simp
@[simp] theorem wK_tgV {Q : Ev → Prop} : wK (tgV i (x, m) r) Q = (i < r.length ∧ setK r i (some (x, m)) Q) := by
  unfold wK tgV setK
  by_cases h : i < r.length <;> simp [h]
@[simp] theorem wK_tgI {Q : Ev → Prop} : wK (tgI i f (x, m) r) Q = (isL i r = true ∧ wE f r fun k r1 => match k.1 with
    | .i k => wG r1[i]? fun y my => wO (stL (y, my) k (x, m)) fun z mz => setK r1 i (some (z, mz)) Q
    | _ => False) := by
  unfold wK tgI wE setK
  by_cases h : isL i r = true
  · rw [if_pos h]
    simp only [h, true_and]
    cases f r with
    | ok k r1 =>
      obtain ⟨k, mk⟩ := k
      cases k with
      | i k =>
        simp only
        cases r1[i]? with
        | none => rfl
        | some o =>
          cases o with
          | none => rfl
          | some y =>
            obtain ⟨y, my⟩ := y
            simp only [wG_some]
            cases stL (y, my) k (x, m) <;> rfl
      | _ => rfl
    | ex _ _ _ => rfl
    | no => rfl
  · simp [h]
@[simp] theorem wK_tgT {Q : Ev → Prop} {ts : List (Vl → Ev → Option Ev)} {xs : List Dt} : wK (tgT ts (.t xs, m) r) Q = wK (tgs ts xs r) Q := id rfl
@[simp] theorem wK_tgTl {Q : Ev → Prop} {ts : List (Vl → Ev → Option Ev)} {xs : List Dt} : wK (tgT ts (.l xs, m) r) Q = wK (tgs ts xs r) Q := id rfl
@[simp] theorem wK_tgTz {Q : Ev → Prop} {ts : List (Vl → Ev → Option Ev)} {xs : List Dt} : wK (tgT ts (.z xs, m) r) Q = wK (tgs ts xs r) Q := id rfl
@[simp] theorem wK_tgs0 {Q : Ev → Prop} : wK (tgs [] [] r) Q = Q r := id rfl
@[simp] theorem wK_tgs {Q : Ev → Prop} {t : Vl → Ev → Option Ev} {ts : List (Vl → Ev → Option Ev)} {xs : List Dt} : wK (tgs (t :: ts) (x :: xs) r) Q = wK (t (x, .c) r) fun r1 => wK (tgs ts xs r1) Q := by
  unfold wK
  simp only [tgs]
  cases t (x, .c) r <;> rfl
@[simp] theorem isL_0 {xs : List Dt} : isL 0 (some (.l xs, m) :: r) = true := id rfl
@[simp] theorem isL_s {o : Option Vl} : isL (i + 1) (o :: r) = isL i r := id rfl
@[simp] theorem wS_app : wS (sAppG i f) r Qn Qr Qb Qc = (isL i r = true ∧ wE f r fun y r1 => wG r1[i]? fun x m => wO (apL (x, m) y) fun z mz => setK r1 i (some (z, mz)) Qn) := by
  unfold wS wE setK
  simp only [sAppG]
  by_cases h : isL i r = true
  · simp only [h, if_true, true_and, sApp, sWith]
    cases f r with
    | ok y r1 =>
      simp only
      cases r1[i]? with
      | none => rfl
      | some o =>
        cases o with
        | none => rfl
        | some x =>
          obtain ⟨x, m⟩ := x
          simp only [wG_some]
          cases apL (x, m) y <;> rfl
    | ex _ _ _ => rfl
    | no => rfl
  · simp [h]
def wH (fs : List (Ev → Ou Vl)) (r : Ev) (Q : List Vl → Ev → Prop) : Prop := match evH fs r with
  | .ok x r' => Q x r'
  | _ => False
@[simp] theorem wH_nil {Q : List Vl → Ev → Prop} : wH [] r Q = Q [] r := id rfl
@[simp] theorem wH_cons {Q : List Vl → Ev → Prop} {fs : List (Ev → Ou Vl)} : wH (f :: fs) r Q = wE f r fun x r1 => wH fs r1 fun xs r2 => Q (x :: xs) r2 := by
  unfold wH wE
  simp only [evH]
  cases f r with
  | ok x r1 =>
    simp only
    cases evH fs r1 <;> rfl
  | ex _ _ _ => rfl
  | no => rfl
@[simp] theorem wS_par {is : List Nat} {fs : List (Ev → Ou Vl)} : wS (sPar is fs) r Qn Qr Qb Qc = wH fs r fun xs r1 => wK (putE is xs r1) Qn := by
  unfold wS wH
  simp only [sPar]
  cases evH fs r with
  | ok xs r1 =>
    simp only
    cases h : putE is xs r1 <;> simp
  | ex _ _ _ => rfl
  | no => rfl
@[simp] theorem wK_put0 {Q : Ev → Prop} : wK (putE [] [] r) Q = Q r := id rfl
@[simp] theorem wK_put {Q : Ev → Prop} {is : List Nat} {xs : List Vl} {y : Vl} : wK (putE (i :: is) (y :: xs) r) Q = (i < r.length ∧ setK r i (some y) fun r1 => wK (putE is xs r1) Q) := by
  unfold wK setK
  simp only [putE]
  by_cases h : i < r.length <;> simp [h]
@[simp] theorem wS_aug {C : Int → Int → Bool} {o : Int → Int → Int} : wS (sAug i C o f) r Qn Qr Qb Qc = wG r[i]? fun x _ => match x with
    | .i a => wE f r fun y r1 => match y.1 with
      | .i b => C a b = true ∧ setK r1 i (some (.i (o a b), .c)) Qn
      | _ => False
    | _ => False := by
  unfold wS wG wE setK
  simp only [sAug]
  cases r[i]? with
  | none => rfl
  | some z =>
    cases z with
    | none => rfl
    | some xm =>
      obtain ⟨x, m⟩ := xm
      cases x with
      | i a =>
        simp only
        cases f r with
        | ok y r1 =>
          obtain ⟨y, my⟩ := y
          cases y with
          | i b =>
            simp only
            by_cases h : C a b = true <;> simp [h]
          | _ => rfl
        | ex _ _ _ => rfl
        | no => rfl
      | _ => rfl
/-! loops -/
theorem wS_for {q : Ev → Ou (List Dt)} {t : Vl → Ev → Option Ev} {body : Ev → So} (P : Nat → Ev → Prop) {xs : List Dt} {r1 : Ev} (hq : q r = .ok xs r1) (h0 : P 0 r1)
    (hs : ∀ k x r, xs[k]? = some x → P k r → wK (t (x, .c) r) fun r2 => wS body r2 (P (k + 1)) Qr Qn (P (k + 1))) (hn : ∀ r, P xs.length r → Qn r) : wS (sFor q t body) r Qn Qr Qb Qc := by
  have go : ∀ (ys : List Dt) (k : Nat) (r : Ev), (∀ i, ys[i]? = xs[k + i]?) → k + ys.length = xs.length → P k r → wS (fun r => forL t body ys r) r Qn Qr Qb Qc := by
    intro ys
    induction ys with
    | nil =>
      intro k r _ hk hp
      have : k = xs.length := by simpa using hk
      subst this
      exact hn r hp
    | cons y ys ih =>
      intro k r hy hk hp
      have h1 := hs k y r (by have := hy 0; simpa using this.symm) hp
      unfold wS
      simp only [forL]
      cases ht : t (y, .c) r with
      | none => rw [ht] at h1; exact h1
      | some r2 =>
        rw [ht] at h1
        simp only
        have h1 : wS body r2 (P (k + 1)) Qr Qn (P (k + 1)) := h1
        have nx : ∀ r3, P (k + 1) r3 → wS (fun r => forL t body ys r) r3 Qn Qr Qb Qc := fun r3 h3 => ih (k + 1) r3 (fun i => by
          have := hy (i + 1)
          rw [show k + (i + 1) = k + 1 + i by omega] at this
          simpa using this) (by simp at hk; omega) h3
        unfold wS at h1
        cases hb : body r2 with
        | nx r3 => rw [hb] at h1; exact nx r3 h1
        | ct r3 => rw [hb] at h1; exact nx r3 h1
        | bk r3 => rw [hb] at h1; exact h1
        | rt z r3 => rw [hb] at h1; exact h1
        | ex _ _ _ => rw [hb] at h1; exact h1
        | no => rw [hb] at h1; exact h1
  have := go xs 0 r1 (fun i => by simp) (by simp) h0
  unfold wS at this ⊢
  simp only [sFor, hq]
  exact this
theorem wS_for' {q : Ev → Ou (List Dt)} {t : Vl → Ev → Option Ev} {body : Ev → So} (h : wI q r fun xs r1 => ∃ P : Nat → Ev → Prop, P 0 r1 ∧ (∀ k x r, xs[k]? = some x → P k r → wK (t (x, .c) r) fun r2 => wS body r2 (P (k + 1)) Qr Qn (P (k + 1))) ∧ ∀ r, P xs.length r → Qn r) : wS (sFor q t body) r Qn Qr Qb Qc := by
  unfold wI at h
  cases hq : q r with
  | ok xs r1 =>
    rw [hq] at h
    obtain ⟨P, h0, h1, h2⟩ := h
    exact wS_for P hq h0 h1 h2
  | ex _ _ _ => rw [hq] at h; exact h.elim
  | no => rw [hq] at h; exact h.elim
/-- a comprehension, item by item; the state stays -/
theorem lc_map {own : Bool} {vs : List Nat} {t : Vl → Ev → Option Ev} (G : Dt → Dt) : ∀ (xs acc : List Dt), (∀ x ∈ xs, wK (t (x, .c) r) fun r1 => wT c r1 fun b r2 => b = true ∧ wE f r2 fun y r3 => y.1 = G x ∧ (own = true → zfl y = true) ∧ wipeE r3 vs = r) → lcL vs t c f own xs r acc = .ok (acc ++ xs.map G) r
  | [], acc, _ => by simp [lcL]
  | x :: xs, acc, h => by
    have h1 := h x List.mem_cons_self
    unfold wK at h1
    simp only [lcL]
    cases ht : t (x, .c) r with
    | none => rw [ht] at h1; exact h1.elim
    | some r1 =>
      rw [ht] at h1
      simp only at h1 ⊢
      unfold wT at h1
      cases hc : c r1 with
      | ok b r2 =>
        rw [hc] at h1
        obtain ⟨rfl, h1⟩ := h1
        simp only
        unfold wE at h1
        cases hf : f r2 with
        | ok y r3 =>
          rw [hf] at h1
          obtain ⟨y, my⟩ := y
          obtain ⟨e1, e2, e3⟩ := h1
          simp only at e1 ⊢
          subst e1
          rw [e3, if_neg (by cases own <;> simp_all), lc_map G xs _ fun z hz => h z (List.mem_cons_of_mem _ hz)]
          simp
        | ex _ _ _ => rw [hf] at h1; exact h1.elim
        | no => rw [hf] at h1; exact h1.elim
      | ex _ _ _ => rw [hc] at h1; exact h1.elim
      | no => rw [hc] at h1; exact h1.elim
/-- .. some of them -/
theorem lc_filter {own : Bool} {vs : List Nat} {t : Vl → Ev → Option Ev} (C : Dt → Bool) (G : Dt → Dt) : ∀ (xs acc : List Dt), (∀ x ∈ xs, wK (t (x, .c) r) fun r1 => wT c r1 fun b r2 => b = C x ∧ (b = false → wipeE r2 vs = r) ∧ (b = true → wE f r2 fun y r3 => y.1 = G x ∧ (own = true → zfl y = true) ∧ wipeE r3 vs = r)) → lcL vs t c f own xs r acc = .ok (acc ++ (xs.filter C).map G) r
  | [], acc, _ => by simp [lcL]
  | x :: xs, acc, h => by
    have h1 := h x List.mem_cons_self
    unfold wK at h1
    simp only [lcL]
    cases ht : t (x, .c) r with
    | none => rw [ht] at h1; exact h1.elim
    | some r1 =>
      rw [ht] at h1
      simp only at h1 ⊢
      unfold wT at h1
      cases hc : c r1 with
      | ok b r2 =>
        rw [hc] at h1
        obtain ⟨h2, h3, h4⟩ := h1
        cases b with
        | false =>
          simp only
          rw [h3 rfl, lc_filter C G xs acc fun z hz => h z (List.mem_cons_of_mem _ hz)]
          simp [← h2]
        | true =>
          simp only
          have h4 := h4 rfl
          unfold wE at h4
          cases hf : f r2 with
          | ok y r3 =>
            rw [hf] at h4
            obtain ⟨y, my⟩ := y
            obtain ⟨e1, e2, e3⟩ := h4
            simp only at e1 ⊢
            subst e1
            rw [e3, if_neg (by cases own <;> simp_all), lc_filter C G xs _ fun z hz => h z (List.mem_cons_of_mem _ hz)]
            simp [← h2]
          | ex _ _ _ => rw [hf] at h4; exact h4.elim
          | no => rw [hf] at h4; exact h4.elim
      | ex _ _ _ => rw [hc] at h1; exact h1.elim
      | no => rw [hc] at h1; exact h1.elim
/-! defs -/
@[simp] theorem wFn_mk {xs : List Vl} {QF : Vl → Vl → Prop} : wFn (mkFn false n s) xs QF = wS s (xs.map some ++ List.replicate (n - xs.length) none) (fun _ => QF (.n, .c) (.n, .c)) (fun x _ => QF x (.n, .c)) (fun _ => False) (fun _ => False) := by
  unfold wFn wS
  simp only [mkFn]
  cases s (xs.map some ++ List.replicate (n - xs.length) none) <;> rfl
@[simp] theorem wFn_mkI {xs : List Vl} {QF : Vl → Vl → Prop} : wFn (mkFn true n s) xs QF = wS s (xs.map some ++ List.replicate (n - xs.length) none) (fun r => wG r[0]? fun z mz => QF (.n, .c) (z, mz)) (fun x r => wG r[0]? fun z mz => QF x (z, mz)) (fun _ => False) (fun _ => False) := by
  unfold wFn wS
  simp only [mkFn]
  cases s (xs.map some ++ List.replicate (n - xs.length) none) with
  | rt x r =>
    simp only [fin]
    cases r[0]? with
    | none => rfl
    | some o => cases o <;> rfl
  | nx r =>
    simp only [fin]
    cases r[0]? with
    | none => rfl
    | some o => cases o <;> rfl
  | ex c fs r =>
    simp only [finX]
    cases r[0]? with
    | none => rfl
    | some o => cases o <;> rfl
  | _ => rfl
theorem wFn_ex {xs : List Vl} {QF : Vl → Vl → Prop} (h : wFn fn xs QF) : ∃ x z, fn xs = .rt x z ∧ QF x z := by
  unfold wFn at h
  cases e : fn xs with
  | rt x z => rw [e] at h; exact ⟨x, z, rfl, h⟩
  | ex _ _ _ => rw [e] at h; exact h.elim
  | no => rw [e] at h; exact h.elim
theorem wFn_of {xs : List Vl} {QF : Vl → Vl → Prop} {y z : Vl} (h : fn xs = .rt y z) (q : QF y z) : wFn fn xs QF := by
  unfold wFn
  rw [h]; exact q
theorem wFn_eq {xs : List Vl} {y z : Vl} (h : wFn fn xs fun x z' => y = x ∧ z = z') : fn xs = .rt y z := by
  obtain ⟨x, z', e, h1, h2⟩ := wFn_ex h
  rw [e, h1, h2]
theorem wFn_mono {xs : List Vl} {QF QF' : Vl → Vl → Prop} (h : wFn fn xs QF) (q : ∀ x z, QF x z → QF' x z) : wFn fn xs QF' := by
  obtain ⟨x, z, e, h⟩ := wFn_ex h
  exact wFn_of e (q x z h)
end
end Y
/-! W, part B: what the primitives ask. -/
namespace Y
open PySem L2 PyProof.Rows
/-- an item by its place -/
def wAt (xs : List Dt) (k : Int) (Q : Dt → Prop) : Prop := ∃ y, atI xs k = some y ∧ Q y
def wSt (xs : List Dt) (k : Int) (y : Dt) (Q : List Dt → Prop) : Prop := ∃ j, ixN xs.length k = some j ∧ Q (xs.set j y)
theorem ixN_succ {n : Nat} {k : Int} (h : 0 ≤ k) : ixN (n + 1) (k + 1) = (ixN n k).map (· + 1) := by
  unfold ixN
  rw [if_pos (by omega), if_pos h]
  by_cases q : k < n
  · rw [if_pos (by omega), if_pos q]
    simp only [Option.map_some]
    rw [Int.toNat_add h (by omega)]
    rfl
  · rw [if_neg (by omega), if_neg q]; rfl
theorem wAt_succ {x : Dt} {xs : List Dt} {k : Int} {Q : Dt → Prop} (h : 0 ≤ k) : wAt (x :: xs) (k + 1) Q = wAt xs k Q := by
  unfold wAt atI
  rw [List.length_cons, ixN_succ h]
  cases ixN xs.length k <;> simp
theorem wSt_succ {x y : Dt} {xs : List Dt} {k : Int} {Q : List Dt → Prop} (h : 0 ≤ k) : wSt (x :: xs) (k + 1) y Q = wSt xs k y fun zs => Q (x :: zs) := by
  unfold wSt
  rw [List.length_cons, ixN_succ h]
  cases ixN xs.length k <;> simp
@[simp] theorem wAt_0 {x : Dt} {xs : List Dt} {Q : Dt → Prop} : wAt (x :: xs) 0 Q = Q x := by
  have : atI (x :: xs) 0 = some x := by
    have := atI_nat (x :: xs) 0
    simpa using this
  simp [wAt, this]
@[simp] theorem wSt_0 {x y : Dt} {xs : List Dt} {Q : List Dt → Prop} : wSt (x :: xs) 0 y Q = Q (y :: xs) := by
  have : ixN (x :: xs).length 0 = some 0 := by
    have := ixN_nat (n := (x :: xs).length) (k := 0) (by simp)
    simpa using this
  simp only [wSt, this]
  simp
@[simp] theorem wAt_1 {x : Dt} {xs : List Dt} {Q : Dt → Prop} : wAt (x :: xs) 1 Q = wAt xs 0 Q := wAt_succ (k := 0) (by decide)
@[simp] theorem wSt_1 {x y : Dt} {xs : List Dt} {Q : List Dt → Prop} : wSt (x :: xs) 1 y Q = wSt xs 0 y fun zs => Q (x :: zs) := wSt_succ (k := 0) (by decide)
@[simp] theorem wAt_2 {x : Dt} {xs : List Dt} {Q : Dt → Prop} : wAt (x :: xs) 2 Q = wAt xs 1 Q := wAt_succ (k := 1) (by decide)
@[simp] theorem wSt_2 {x y : Dt} {xs : List Dt} {Q : List Dt → Prop} : wSt (x :: xs) 2 y Q = wSt xs 1 y fun zs => Q (x :: zs) := wSt_succ (k := 1) (by decide)
@[simp] theorem wAt_3 {x : Dt} {xs : List Dt} {Q : Dt → Prop} : wAt (x :: xs) 3 Q = wAt xs 2 Q := wAt_succ (k := 2) (by decide)
@[simp] theorem wSt_3 {x y : Dt} {xs : List Dt} {Q : List Dt → Prop} : wSt (x :: xs) 3 y Q = wSt xs 2 y fun zs => Q (x :: zs) := wSt_succ (k := 2) (by decide)
@[simp] theorem wAt_4 {x : Dt} {xs : List Dt} {Q : Dt → Prop} : wAt (x :: xs) 4 Q = wAt xs 3 Q := wAt_succ (k := 3) (by decide)
@[simp] theorem wSt_4 {x y : Dt} {xs : List Dt} {Q : List Dt → Prop} : wSt (x :: xs) 4 y Q = wSt xs 3 y fun zs => Q (x :: zs) := wSt_succ (k := 3) (by decide)
@[simp] theorem wAt_5 {x : Dt} {xs : List Dt} {Q : Dt → Prop} : wAt (x :: xs) 5 Q = wAt xs 4 Q := wAt_succ (k := 4) (by decide)
@[simp] theorem wSt_5 {x y : Dt} {xs : List Dt} {Q : List Dt → Prop} : wSt (x :: xs) 5 y Q = wSt xs 4 y fun zs => Q (x :: zs) := wSt_succ (k := 4) (by decide)
@[simp] theorem wAt_6 {x : Dt} {xs : List Dt} {Q : Dt → Prop} : wAt (x :: xs) 6 Q = wAt xs 5 Q := wAt_succ (k := 5) (by decide)
@[simp] theorem wSt_6 {x y : Dt} {xs : List Dt} {Q : List Dt → Prop} : wSt (x :: xs) 6 y Q = wSt xs 5 y fun zs => Q (x :: zs) := wSt_succ (k := 5) (by decide)
@[simp] theorem wAt_7 {x : Dt} {xs : List Dt} {Q : Dt → Prop} : wAt (x :: xs) 7 Q = wAt xs 6 Q := wAt_succ (k := 6) (by decide)
@[simp] theorem wSt_7 {x y : Dt} {xs : List Dt} {Q : List Dt → Prop} : wSt (x :: xs) 7 y Q = wSt xs 6 y fun zs => Q (x :: zs) := wSt_succ (k := 6) (by decide)
@[simp] theorem isT_n_list : isT "list" .n = false := by simp [isT, tyN]
@[simp] theorem isT_b_list {p : Bool} : isT "list" (.b p) = false := by simp [isT, tyN]
@[simp] theorem isT_i_list {a : Int} : isT "list" (.i a) = false := by simp [isT, tyN]
@[simp] theorem isT_s_list {z : Str} : isT "list" (.s z) = false := by simp [isT, tyN]
@[simp] theorem isT_t_list {xs : List Dt} : isT "list" (.t xs) = false := by simp [isT, tyN]
@[simp] theorem isT_l_list {xs : List Dt} : isT "list" (.l xs) = true := by simp [isT, tyN]
@[simp] theorem isT_z_list {xs : List Dt} : isT "list" (.z xs) = true := by simp [isT, tyN]
@[simp] theorem isT_n_tuple : isT "tuple" .n = false := by simp [isT, tyN]
@[simp] theorem isT_b_tuple {p : Bool} : isT "tuple" (.b p) = false := by simp [isT, tyN]
@[simp] theorem isT_i_tuple {a : Int} : isT "tuple" (.i a) = false := by simp [isT, tyN]
@[simp] theorem isT_s_tuple {z : Str} : isT "tuple" (.s z) = false := by simp [isT, tyN]
@[simp] theorem isT_t_tuple {xs : List Dt} : isT "tuple" (.t xs) = true := by simp [isT, tyN]
@[simp] theorem isT_l_tuple {xs : List Dt} : isT "tuple" (.l xs) = false := by simp [isT, tyN]
@[simp] theorem isT_z_tuple {xs : List Dt} : isT "tuple" (.z xs) = false := by simp [isT, tyN]
@[simp] theorem isT_n_str : isT "str" .n = false := by simp [isT, tyN]
@[simp] theorem isT_b_str {p : Bool} : isT "str" (.b p) = false := by simp [isT, tyN]
@[simp] theorem isT_i_str {a : Int} : isT "str" (.i a) = false := by simp [isT, tyN]
@[simp] theorem isT_s_str {z : Str} : isT "str" (.s z) = true := by simp [isT, tyN]
@[simp] theorem isT_t_str {xs : List Dt} : isT "str" (.t xs) = false := by simp [isT, tyN]
@[simp] theorem isT_l_str {xs : List Dt} : isT "str" (.l xs) = false := by simp [isT, tyN]
@[simp] theorem isT_z_str {xs : List Dt} : isT "str" (.z xs) = false := by simp [isT, tyN]
@[simp] theorem isT_n_bool : isT "bool" .n = false := by simp [isT, tyN]
@[simp] theorem isT_b_bool {p : Bool} : isT "bool" (.b p) = true := by simp [isT, tyN]
@[simp] theorem isT_i_bool {a : Int} : isT "bool" (.i a) = false := by simp [isT, tyN]
@[simp] theorem isT_s_bool {z : Str} : isT "bool" (.s z) = false := by simp [isT, tyN]
@[simp] theorem isT_t_bool {xs : List Dt} : isT "bool" (.t xs) = false := by simp [isT, tyN]
@[simp] theorem isT_l_bool {xs : List Dt} : isT "bool" (.l xs) = false := by simp [isT, tyN]
@[simp] theorem isT_z_bool {xs : List Dt} : isT "bool" (.z xs) = false := by simp [isT, tyN]
@[simp] theorem isT_n_int : isT "int" .n = false := by simp [isT, tyN]
@[simp] theorem isT_b_int {p : Bool} : isT "int" (.b p) = true := by simp [isT, tyN]
@[simp] theorem isT_i_int {a : Int} : isT "int" (.i a) = true := by simp [isT, tyN]
@[simp] theorem isT_s_int {z : Str} : isT "int" (.s z) = false := by simp [isT, tyN]
@[simp] theorem isT_t_int {xs : List Dt} : isT "int" (.t xs) = false := by simp [isT, tyN]
@[simp] theorem isT_l_int {xs : List Dt} : isT "int" (.l xs) = false := by simp [isT, tyN]
@[simp] theorem isT_z_int {xs : List Dt} : isT "int" (.z xs) = false := by simp [isT, tyN]
@[simp] theorem isn_n : isn .n = true := id rfl
@[simp] theorem isn_b {p : Bool} : isn (.b p) = false := id rfl
@[simp] theorem isn_i {a : Int} : isn (.i a) = false := id rfl
@[simp] theorem isn_s {z : Str} : isn (.s z) = false := id rfl
@[simp] theorem isn_t {xs : List Dt} : isn (.t xs) = false := id rfl
@[simp] theorem isn_l {xs : List Dt} : isn (.l xs) = false := id rfl
@[simp] theorem isn_z {xs : List Dt} : isn (.z xs) = false := id rfl

theorem shp_li (ns : List Int) : shp (.l (ns.map .i)) = true := by
  have h1 : PyData.canLayAll0 (toPL (ns.map .i)) = true := by
    induction ns with
    | nil => rfl
    | cons n ns ih => simp [toPL, toP, PyData.canLayAll0, PyData.canLay0, ih]
  have h2 : PyData.depthAll (toPL (ns.map .i)) = 0 := by
    clear h1
    induction ns with
    | nil => rfl
    | cons n ns ih => simp [toPL, toP, PyData.depthAll, PyData.depth, ih]
  simp [shp, toP, SeqAt.shaped, PyData.canLay0, PyData.depth, h1, h2]
theorem eqD_li : ∀ (ns ms : List Int), eqD (.l (ns.map .i)) (.l (ms.map .i)) = decide (ns = ms) := by
  have go : ∀ ns ms : List Int, PyData.eqvAll (toPL (ns.map .i)) (toPL (ms.map .i)) = decide (ns = ms) := by
    intro ns
    induction ns with
    | nil => intro ms; cases ms <;> simp [toPL, PyData.eqvAll]
    | cons n ns ih =>
      intro ms
      cases ms with
      | nil => simp [toPL, PyData.eqvAll]
      | cons k ms =>
        simp only [List.map_cons, toPL, toP, PyData.eqvAll, PyData.eqv, ih, beq_dec, List.cons.injEq]
        by_cases h : n = k <;> simp [h]
  intro ns ms
  simp only [eqD, toP, PyData.eqv, go]
section
variable {a b k : Int} {x y : Dt} {xs ys : List Dt} {Q : Dt → Md → Prop} {QL : List Dt → Prop} {m : Md} {p q : Bool}
@[simp] theorem wO_add : wO (fAdd [.i a, .i b]) Q = Q (.i (a + b)) .c := id rfl
theorem wL_if {c : Prop} [Decidable c] {v : List Dt} : wL (if c then some v else none) QL = (c ∧ QL v) := by by_cases h : c <;> simp [h, wL]
theorem wO_if {c : Prop} [Decidable c] {v : Vl} : wO (if c then some v else none) Q = (c ∧ Q v.1 v.2) := by by_cases h : c <;> simp [h, wO]
@[simp] theorem wO_addL : wO (fAdd [.l xs, .l ys]) Q = (xs.length + ys.length ≤ LIM ∧ Q (.l (xs ++ ys)) .t) := by
  simp only [fAdd, fII, fCatL, fCatT, fCatS, Option.none_or]
  by_cases h : xs.length + ys.length ≤ LIM <;> simp [h]
@[simp] theorem wO_addT : wO (fAdd [.t xs, .t ys]) Q = (xs.length + ys.length ≤ LIM ∧ Q (.t (xs ++ ys)) .c) := by
  simp only [fAdd, fII, fCatL, fCatT, fCatS, Option.none_or]
  by_cases h : xs.length + ys.length ≤ LIM <;> simp [h]
@[simp] theorem wO_sub : wO (fSub [.i a, .i b]) Q = Q (.i (a - b)) .c := id rfl
@[simp] theorem wO_neg : wO (fNeg [.i a]) Q = Q (.i (-a)) .c := id rfl
@[simp] theorem wO_mul : wO (fMul [.i a, .i b]) Q = (cMul a b = true ∧ Q (.i (a * b)) .c) := by
  simp only [fMul, fMulI, fIC, fRepL, fRepT, Option.or_none]
  by_cases h : cMul a b = true <;> simp [h]
@[simp] theorem wO_mulL : wO (fMul [.l xs, .i k]) Q = ((k ≤ 1000000 ∧ -1000000 ≤ k ∧ xs.length * k.toNat ≤ LIM) ∧ Q (.l (List.replicate k.toNat xs).flatten) .t) := by
  simp only [fMul, fMulI, fIC, fRepL, fRepT, Option.none_or, Option.or_none]
  exact wO_if
@[simp] theorem wO_mod : wO (fMod [.i a, .i b]) Q = (0 < b ∧ Q (.i (a % b)) .c) := by
  simp only [fMod, fIC]
  by_cases h : 0 < b <;> simp [h]
@[simp] theorem wO_div : wO (fDiv [.i a, .i b]) Q = ((0 < b ∧ b.natAbs.log2 < 9000) ∧ Q (.i (a / b)) .c) := by
  simp only [fDiv, fIC]
  rw [wO_if]
  simp
theorem log_ok {b : Int} (h0 : 0 < b) (h2 : b < 2 ^ 64) : b.natAbs.log2 < 9000 := by
  have h3 : b.natAbs < 2 ^ 64 := by omega
  by_cases h0 : b.natAbs = 0
  · rw [h0]; decide
  · have := (Nat.log2_lt h0).mpr h3
    omega
@[simp] theorem wO_pow : wO (fPow [.i a, .i b]) Q = ((0 ≤ b ∧ b ≤ 1000000 ∧ a.natAbs < 2 ^ 64) ∧ Q (.i (a ^ b.toNat)) .c) := by
  simp only [fPow, fIC]
  by_cases h : 0 ≤ b ∧ b ≤ 1000000 ∧ a.natAbs < 2 ^ 64
  · simp [h]
  · simp only [h, false_and]
    rw [if_neg (by simpa [and_assoc] using h)]
    rfl
@[simp] theorem wO_lt : wO (fLt [.i a, .i b]) Q = Q (.b (decide (a < b))) .c := id rfl
@[simp] theorem wO_le : wO (fLe [.i a, .i b]) Q = Q (.b (decide (a ≤ b))) .c := id rfl
@[simp] theorem wO_gt : wO (fGt [.i a, .i b]) Q = Q (.b (decide (b < a))) .c := id rfl
@[simp] theorem wO_ge : wO (fGe [.i a, .i b]) Q = Q (.b (decide (b ≤ a))) .c := id rfl
@[simp] theorem wO_eqI : wO (fEq [.i a, .i b]) Q = Q (.b (decide (a = b))) .c := by rw [fEq_i]; rfl
@[simp] theorem wO_neI : wO (fNe [.i a, .i b]) Q = Q (.b (!decide (a = b))) .c := by rw [fNe_i]; rfl
@[simp] theorem wO_eqB : wO (fEq [.b p, .b q]) Q = Q (.b (decide (p = q))) .c := by rw [fEq_b]; rfl
@[simp] theorem wO_neB : wO (fNe [.b p, .b q]) Q = Q (.b (!decide (p = q))) .c := by rw [fNe_b]; rfl
@[simp] theorem wO_eqS {z z' : Str} : wO (fEq [.s z, .s z']) Q = Q (.b (decide (z = z'))) .c := id rfl
@[simp] theorem wO_neS {z z' : Str} : wO (fNe [.s z, .s z']) Q = Q (.b (!decide (z = z'))) .c := id rfl
theorem wO_eq (hx : ∀ z, x ≠ .s z) : wO (fEq [x, y]) Q = ((shp x = true ∧ shp y = true) ∧ Q (.b (eqD x y)) .c) := by
  unfold fEq
  split
  · rename_i a b h
    cases h
    exact absurd rfl (hx a)
  · rename_i a b h0 h
    cases h
    by_cases h : shp x = true ∧ shp y = true
    · simp [h]
    · rw [if_neg (by simpa using h)]; simp [h]
  · rename_i h1 h2
    exact absurd rfl (h2 x y)
theorem wO_ne (hx : ∀ z, x ≠ .s z) : wO (fNe [x, y]) Q = ((shp x = true ∧ shp y = true) ∧ Q (.b (!eqD x y)) .c) := by
  unfold fNe
  split
  · rename_i a b h
    cases h
    exact absurd rfl (hx a)
  · rename_i a b h0 h
    cases h
    by_cases h : shp x = true ∧ shp y = true
    · simp [h]
    · rw [if_neg (by simpa using h)]; simp [h]
  · rename_i h1 h2
    exact absurd rfl (h2 x y)
theorem wO_eqL : wO (fEq [.l xs, y]) Q = ((shp (.l xs) = true ∧ shp y = true) ∧ Q (.b (eqD (.l xs) y)) .c) := wO_eq fun z h => by cases h
theorem wO_neL : wO (fNe [.l xs, y]) Q = ((shp (.l xs) = true ∧ shp y = true) ∧ Q (.b (!eqD (.l xs) y)) .c) := wO_ne fun z h => by cases h
theorem wO_eqT : wO (fEq [.t xs, y]) Q = ((shp (.t xs) = true ∧ shp y = true) ∧ Q (.b (eqD (.t xs) y)) .c) := wO_eq fun z h => by cases h
theorem wO_neT : wO (fNe [.t xs, y]) Q = ((shp (.t xs) = true ∧ shp y = true) ∧ Q (.b (!eqD (.t xs) y)) .c) := wO_ne fun z h => by cases h
@[simp] theorem wO_ixL : wO (fIx [.l xs, .i k]) Q = wAt xs k fun y => Q y .c := by
  unfold wAt
  rw [fIx_l]
  cases atI xs k <;> simp
@[simp] theorem wO_ixT : wO (fIx [.t xs, .i k]) Q = wAt xs k fun y => Q y .c := by
  unfold wAt
  rw [fIx_t]
  cases atI xs k <;> simp
@[simp] theorem wO_ixZ : wO (fIx [.z xs, .i k]) Q = wAt xs k fun y => Q y .c := by
  unfold wAt
  rw [fIx_z]
  cases atI xs k <;> simp
@[simp] theorem wO_lst : wO (fLst xs) Q = (xs.length ≤ LIM ∧ Q (.l xs) .t) := by
  simp only [fLst]; exact wO_if
@[simp] theorem wO_tup : wO (fTup xs) Q = (xs.length ≤ LIM ∧ Q (.t xs) .c) := by
  simp only [fTup]; exact wO_if
@[simp] theorem wO_lenL : wO (fLen [.l xs]) Q = Q (.i xs.length) .c := id rfl
@[simp] theorem wO_lenT : wO (fLen [.t xs]) Q = Q (.i xs.length) .c := id rfl
@[simp] theorem wO_lenZ : wO (fLen [.z xs]) Q = Q (.i xs.length) .c := id rfl
@[simp] theorem wO_listL : wO (fList [.l xs]) Q = Q (.l xs) .t := id rfl
@[simp] theorem wO_listT : wO (fList [.t xs]) Q = Q (.l xs) .t := id rfl
@[simp] theorem wO_listZ : wO (fList [.z xs]) Q = Q (.l xs) .t := id rfl
@[simp] theorem wO_tupL : wO (fTuple [.l xs]) Q = Q (.t xs) .c := id rfl
@[simp] theorem wO_tupT : wO (fTuple [.t xs]) Q = Q (.t xs) .c := id rfl
@[simp] theorem wO_abs : wO (fAbs [.i a]) Q = Q (.i (if a < 0 then -a else a)) .c := id rfl
@[simp] theorem wO_max2 : wO (fMax2 [.i a, .i b]) Q = Q (.i (if b > a then b else a)) .c := id rfl
@[simp] theorem wO_min2 : wO (fMin2 [.i a, .i b]) Q = Q (.i (if b < a then b else a)) .c := id rfl
@[simp] theorem wO_intI : wO (fInt [.i a]) Q = Q (.i a) .c := id rfl
@[simp] theorem wO_intB : wO (fInt [.b p]) Q = Q (.i (if p then 1 else 0)) .c := id rfl
@[simp] theorem wO_sum {ns : List Int} : wO (fSum [.l (ns.map .i)]) Q = Q (.i ns.sum) .c := by simp [fSum, ints_map]
@[simp] theorem wO_all {ns : List Bool} : wO (fAll [.l (ns.map .b)]) Q = Q (.b (ns.all id)) .c := by simp [fAll, bls_map]
@[simp] theorem wO_any {ns : List Bool} : wO (fAny [.l (ns.map .b)]) Q = Q (.b (ns.any id)) .c := by simp [fAny, bls_map]
@[simp] theorem isP_n : isP .n = true := id rfl
@[simp] theorem isP_b : isP (.b p) = true := id rfl
@[simp] theorem isP_i : isP (.i a) = true := id rfl
@[simp] theorem isP_s {z : Str} : isP (.s z) = true := id rfl
@[simp] theorem isP_t : isP (.t xs) = true := id rfl
@[simp] theorem isP_l : isP (.l xs) = true := id rfl
@[simp] theorem isP_z : isP (.z xs) = true := id rfl
@[simp] theorem wO_isi {Ts : List String} : wO (fIsi Ts [x]) Q = (isP x = true ∧ Q (.b (Ts.any (isT · x))) .c) := by
  by_cases h : isP x = true
  · simp [fIsi, h]
  · simp [fIsi, h]
@[simp] theorem wO_isN : wO (fIs [x, .n]) Q = Q (.b (isn x)) .c := id rfl
@[simp] theorem wO_notN : wO (fNot [x, .n]) Q = Q (.b (!isn x)) .c := id rfl
@[simp] theorem wO_revL : wO (fRev [.l xs]) Q = Q (.l xs.reverse) .t := id rfl
@[simp] theorem wL_rng1 : wL (sRng1 [.i k]) QL = ((-(2 ^ 60) ≤ k ∧ k ≤ LIM) ∧ QL (rngD 0 k.toNat)) := by
  simp only [sRng1]; exact wL_if
@[simp] theorem wL_rng2 : wL (sRng2 [.i a, .i b]) QL = ((-(2 ^ 60) ≤ a ∧ a ≤ 2 ^ 60 ∧ -(2 ^ 60) ≤ b ∧ b ≤ 2 ^ 60 ∧ b - a ≤ LIM) ∧ QL (rngD a (b - a).toNat)) := by
  simp only [sRng2]; exact wL_if
@[simp] theorem wL_seqL : wL (sSq [.l xs]) QL = QL xs := id rfl
@[simp] theorem wL_seqT : wL (sSq [.t xs]) QL = QL xs := id rfl
@[simp] theorem wL_seqZ : wL (sSq [.z xs]) QL = QL xs := id rfl
@[simp] theorem wL_enumL : wL (sEnum [.l xs]) QL = QL (enumD 0 xs) := id rfl
@[simp] theorem wL_zipL : wL (sZip [.l xs, .l ys]) QL = QL (zipD xs ys) := id rfl
@[simp] theorem wL_zipT : wL (sZip [.t xs, .t ys]) QL = QL (zipD xs ys) := id rfl
@[simp] theorem wO_apT {y : Vl} : wO (apL (.l xs, .t) y) Q = (xs.length < LIM ∧ Q (.l (xs ++ [y.1])) .t) := by
  simp only [apL]; exact wO_if
@[simp] theorem wO_apA {y : Vl} : wO (apL (.l xs, .a) y) Q = ((xs.length < LIM ∧ zfl y = true) ∧ Q (.l (xs ++ [y.1])) .a) := by
  simp only [apL]; exact wO_if
@[simp] theorem wO_stT {y : Vl} : wO (stL (.l xs, .t) k y) Q = wSt xs k y.1 fun zs => Q (.l zs) .t := by
  unfold wSt
  simp only [stL]
  cases ixN xs.length k <;> simp
theorem wO_stA {y : Vl} : wO (stL (.l xs, .a) k y) Q = (zfl y = true ∧ wSt xs k y.1 fun zs => Q (.l zs) .a) := by
  unfold wSt
  simp only [stL]
  by_cases h : zfl y = true
  · rw [if_pos h]
    cases ixN xs.length k <;> simp [h]
  · simp [h]
@[simp] theorem wE_Sl {A : Am} {r : Ev} {lo hi : Option (Ev → Ou Vl)} {Q : Vl → Ev → Prop} : wE (mSl A lo hi) r Q = wA [A] r fun ys r1 => wP lo r1 fun l r2 => wP hi r2 fun h r3 => wL (look r3 ys) fun xs => match xs with
    | [x] => wO (fSl l h x) fun y m => wZ y ys r3 (Q (y, m))
    | _ => False := by
  unfold wE wA wZ
  simp only [mSl]
  cases evA [A] r with
  | ok ys r1 =>
    simp only
    unfold wP
    cases evP lo r1 with
    | ok l r2 =>
      simp only
      cases evP hi r2 with
      | ok u r3 =>
        simp only
        cases look r3 ys with
        | none => rfl
        | some xs =>
          simp only [wL_some]
          match xs with
          | [] => rfl
          | [x] =>
            simp only
            cases fSl l u x with
            | none => rfl
            | some y => rfl
          | _ :: _ :: _ => rfl
      | ex _ _ _ => rfl
      | no => rfl
    | ex _ _ _ => rfl
    | no => rfl
  | ex _ _ _ => rfl
  | no => rfl
@[simp] theorem wO_slL {l h : Option Int} : wO (fSl l h (.l xs)) Q = Q (.l (cutD xs l h)) .t := id rfl
@[simp] theorem wO_slZ {l h : Option Int} : wO (fSl l h (.z xs)) Q = Q (.l (cutD xs l h)) .t := id rfl
@[simp] theorem wO_slT {l h : Option Int} : wO (fSl l h (.t xs)) Q = Q (.t (cutD xs l h)) .c := id rfl
theorem cMul_01 {p : Prop} [Decidable p] : cMul a (if p then 1 else 0) = true := by
  split
  · exact cMul_r (by omega) (by omega)
  · exact cMul_r (by omega) (by omega)
theorem atI_i {cs : List Int} (h0 : 0 ≤ k) (h : k < cs.length) : ∃ c, atI (cs.map Dt.i) k = some (Dt.i c) ∧ cs[k.toNat]? = some c := by
  obtain ⟨n, rfl⟩ := Int.eq_ofNat_of_zero_le h0
  have hn : n < cs.length := by omega
  refine ⟨cs[n], ?_, by simp [hn]⟩
  rw [atI_nat]
  simp [hn]
theorem wAt_i {cs : List Int} {Q : Dt → Prop} (h0 : 0 ≤ k) (h : k < cs.length) (q : ∀ c, cs[k.toNat]? = some c → Q (Dt.i c)) : wAt (cs.map Dt.i) k Q := by
  obtain ⟨c, h1, h2⟩ := atI_i h0 h
  exact ⟨_, h1, q c h2⟩
theorem lim3 {n : Nat} (h : n ≤ 1000) : n ≤ LIM := Nat.le_trans h (by decide)
theorem lim3' {n : Nat} (h : n < 1000) : n < LIM := Nat.lt_of_lt_of_le h (by decide)
@[simp] theorem wO_max1 {ns : List Int} : wO (fMax1 [.l ((a :: ns).map .i)]) Q = Q (.i (lmax a ns)) .c := by simp [fMax1, intsL, ints_map]
@[simp] theorem wO_min1 {ns : List Int} : wO (fMin1 [.l ((a :: ns).map .i)]) Q = Q (.i (lmin a ns)) .c := by simp [fMin1, intsL, ints_map]
@[simp] theorem wO_max1T {ns : List Int} : wO (fMax1 [.t ((a :: ns).map .i)]) Q = Q (.i (lmax a ns)) .c := by simp [fMax1, intsL, ints_map]
@[simp] theorem wO_min1T {ns : List Int} : wO (fMin1 [.t ((a :: ns).map .i)]) Q = Q (.i (lmin a ns)) .c := by simp [fMin1, intsL, ints_map]
@[simp] theorem wAt_last {Q : Dt → Prop} : wAt (xs ++ [x]) (-1) Q = Q x := by
  have : atI (xs ++ [x]) (-1) = some x := by
    unfold atI ixN
    rw [if_neg (by decide), if_pos (by rw [List.length_append, List.length_singleton]; omega)]
    simp only [Option.bind_some, List.length_append, List.length_singleton]
    rw [show (-1 + ((xs.length + 1 : Nat) : Int)).toNat = xs.length by omega]
    simp
  simp [wAt, this]
theorem zipD_i : ∀ ns ms : List Int, zipD (ns.map .i) (ms.map .i) = (List.zip ns ms).map fun p => .t [.i p.1, .i p.2]
  | [], _ => by simp [zipD]
  | _ :: _, [] => by simp [zipD]
  | n :: ns, m :: ms => by simp [zipD, zipD_i ns ms]
theorem zipD_same : ∀ xs : List Dt, ∀ z ∈ zipD xs xs, ∃ a ∈ xs, z = .t [a, a]
  | [], z, h => by simp [zipD] at h
  | x :: xs, z, h => by
    simp only [zipD, List.mem_cons] at h
    rcases h with h | h
    · exact ⟨x, List.mem_cons_self, h⟩
    · obtain ⟨a, h1, h2⟩ := zipD_same xs z h
      exact ⟨a, List.mem_cons_of_mem _ h1, h2⟩
theorem map_true (zs : List Dt) : zs.map (fun _ => Dt.b true) = (zs.map fun _ => true).map .b := by simp
theorem all_true (zs : List Dt) : (zs.map fun _ => true).all id = true := by simp
theorem rngD_map {lo : Int} {n : Nat} {G : Dt → Dt} : (rngD lo n).map G = (List.range n).map fun (i : Nat) => G (.i (lo + (i : Int))) := by simp [rngD]
theorem mem_rngD {lo : Int} {n : Nat} (h : x ∈ rngD lo n) : ∃ i : Nat, i < n ∧ x = .i (lo + i) := by
  simp only [rngD, List.mem_map, List.mem_range] at h
  obtain ⟨i, h1, h2⟩ := h
  exact ⟨i, h1, h2.symm⟩
theorem sIx_pos {n d : Nat} {j : Int} (h : 0 ≤ j) : HT.sIx n d (some j) = min j.toNat n := by
  obtain ⟨m, rfl⟩ := Int.eq_ofNat_of_zero_le h
  exact HT.sIx_nat n d m
theorem cutD_hi (h : 0 ≤ k) : cutD xs none (some k) = xs.take k.toNat := by
  unfold cutD
  rw [sIx_pos h, HT.sIx_none, List.drop_zero, Nat.sub_zero]
  rcases Nat.le_total k.toNat xs.length with q | q
  · rw [Nat.min_eq_left q]
  · rw [Nat.min_eq_right q, List.take_length, List.take_of_length_le q]
theorem cutD_lo (h : 0 ≤ k) : cutD xs (some k) none = xs.drop k.toNat := by
  unfold cutD
  rw [sIx_pos h, HT.sIx_none]
  rcases Nat.le_total k.toNat xs.length with q | q
  · rw [Nat.min_eq_left q, List.take_of_length_le (by simp)]
  · rw [Nat.min_eq_right q, List.drop_length, List.drop_of_length_le q]; simp
theorem cutD_lh (h : 0 ≤ a) (h2 : 0 ≤ b) : cutD xs (some a) (some b) = (xs.drop a.toNat).take (b.toNat - a.toNat) := by
  unfold cutD
  rw [sIx_pos h, sIx_pos h2]
  rcases Nat.le_total a.toNat xs.length with q | q
  · rw [Nat.min_eq_left q]
    rcases Nat.le_total b.toNat xs.length with p | p
    · rw [Nat.min_eq_left p]
    · rw [Nat.min_eq_right p, List.take_of_length_le (by simp), List.take_of_length_le (by simp; omega)]
  · rw [Nat.min_eq_right q, List.drop_length, List.drop_of_length_le q]; simp
theorem enumD_mem {xs : List Dt} {j : Nat} {z : Dt} (h : (enumD 0 xs)[j]? = some z) : ∃ d, xs[j]? = some d ∧ z = .t [.i j, d] := by
  rw [enumD_at, Option.map_eq_some_iff] at h
  obtain ⟨d, h1, h2⟩ := h
  exact ⟨d, h1, by simpa using h2.symm⟩
theorem wSt_i {cs : List Int} {c : Int} {QD : List Dt → Prop} (h0 : 0 ≤ k) (h : k < cs.length) (q : QD ((cs.set k.toNat c).map Dt.i)) : wSt (cs.map Dt.i) k (.i c) QD := by
  obtain ⟨n, rfl⟩ := Int.eq_ofNat_of_zero_le h0
  refine ⟨n, ixN_nat (by simpa using h), ?_⟩
  have e : (cs.set n c).map Dt.i = (cs.map Dt.i).set n (.i c) := by simp [List.map_set]
  have q : QD ((cs.set n c).map Dt.i) := by simpa using q
  rw [← e]; exact q
theorem limI {k : Int} (h : k ≤ 1000) : k ≤ (LIM : Int) := Int.le_trans h (by decide)
end
end Y
/-! W, part C: what the later statements and primitives ask. -/
namespace Y
open PySem L2 PyProof.Rows
section
variable {f g : Ev → Ou Vl} {s u : Ev → So} {r : Ev} {Q : Vl → Ev → Prop} {Qn Qb Qc : Ev → Prop} {Qr : Vl → Ev → Prop} {i n : Nat} {x y : Dt} {m : Md} {fs : List (Ev → Ou Vl)} {xs ys : List Dt}
@[simp] theorem wE_LstO : wE (mLstO fs) r Q = wH fs r fun xs r1 => (xs.length ≤ LIM ∧ xs.all zfl = true) ∧ Q (.l (xs.map (·.1)), .a) r1 := by
  unfold wE wH
  simp only [mLstO]
  cases evH fs r with
  | ok xs r1 =>
    simp only
    by_cases h : xs.length ≤ LIM ∧ xs.all zfl = true
    · rw [if_pos h]; simp [h]
    · rw [if_neg h]; simp only [h, false_and]
  | ex _ _ _ => rfl
  | no => rfl
def wEx (x : Dt) (m : Md) (y : Dt) (Q : Dt → Prop) : Prop := match x, m, y with
  | .l xs, .t, .l ys => xs.length + ys.length ≤ LIM ∧ Q (.l (xs ++ ys))
  | _, _, _ => False
@[simp] theorem wEx_l {Q : Dt → Prop} : wEx (.l xs) .t (.l ys) Q = (xs.length + ys.length ≤ LIM ∧ Q (.l (xs ++ ys))) := id rfl
@[simp] theorem wS_ext : wS (sExt i f) r Qn Qr Qb Qc = (isL i r = true ∧ wE f r fun y r1 => wG r1[i]? fun x m => wEx x m y.1 fun z => setK r1 i (some (z, .t)) Qn) := by
  unfold wS wE wG setK wEx
  simp only [sExt]
  by_cases h : isL i r = true
  · simp only [h, if_true, true_and, sWith]
    cases f r with
    | ok y r1 =>
      obtain ⟨y, my⟩ := y
      simp only
      cases r1[i]? with
      | none => cases y <;> rfl
      | some o =>
        cases o with
        | none => cases y <;> rfl
        | some x =>
          obtain ⟨x, m⟩ := x
          cases x <;> cases m <;> cases y <;> try rfl
          rename_i xs ys
          by_cases h : xs.length + ys.length ≤ LIM
          · simp [h]
          · simp [h]
    | ex _ _ _ => rfl
    | no => rfl
  · simp [h]
def wPo (x : Dt) (m : Md) (k : Int) (Q : Dt → Dt → Prop) : Prop := match x, m with
  | .l xs, .t => xs.length ≤ LIM ∧ ∃ j y, seqIndex? k xs.length = some j ∧ xs[j]? = some y ∧ Q y (.l (xs.eraseIdx j))
  | _, _ => False
@[simp] theorem wPo_t {k : Int} {Q : Dt → Dt → Prop} : wPo (.l xs) .t k Q = (xs.length ≤ LIM ∧ ∃ j y, seqIndex? k xs.length = some j ∧ xs[j]? = some y ∧ Q y (.l (xs.eraseIdx j))) := id rfl
@[simp] theorem wE_pop : wE (mPop i f) r Q = (isL i r = true ∧ wE f r fun k r1 => match k.1 with
    | .i k => wG r1[i]? fun x m => wPo x m k fun y z => setK r1 i (some (z, .t)) (Q (y, .c))
    | _ => False) := by
  unfold wE wG setK wPo
  simp only [mPop]
  by_cases h : isL i r = true
  · simp only [h, if_true, true_and]
    cases f r with
    | ok k r1 =>
      obtain ⟨k, mk⟩ := k
      cases k with
      | i k =>
        simp only
        cases r1[i]? with
        | none => rfl
        | some o =>
          cases o with
          | none => rfl
          | some x =>
            obtain ⟨x, m⟩ := x
            cases x <;> cases m <;> try rfl
            rename_i xs
            simp only
            by_cases h : xs.length ≤ LIM
            · rw [if_pos h]
              cases hj : seqIndex? k xs.length with
              | none => simp
              | some j =>
                simp only
                cases hy : xs[j]? with
                | none => simp [hy]
                | some y => simp [h, hy]
            · simp [h]
      | _ => rfl
    | ex _ _ _ => rfl
    | no => rfl
  · simp [h]
def wP0 (x : Dt) (m : Md) (Q : Dt → Dt → Prop) : Prop := match x, m with
  | .l xs, .t => ∃ y, xs[xs.length - 1]? = some y ∧ Q y (.l xs.dropLast)
  | _, _ => False
@[simp] theorem wP0_t {Q : Dt → Dt → Prop} : wP0 (.l xs) .t Q = ∃ y, xs[xs.length - 1]? = some y ∧ Q y (.l xs.dropLast) := id rfl
@[simp] theorem wE_pop0 : wE (mPop0 i) r Q = wG r[i]? fun x m => wP0 x m fun y z => setK r i (some (z, .t)) (Q (y, .c)) := by
  unfold wE wG setK wP0
  simp only [mPop0]
  cases r[i]? with
  | none => rfl
  | some o =>
    cases o with
    | none => rfl
    | some x =>
      obtain ⟨x, m⟩ := x
      cases x <;> cases m <;> try rfl
      rename_i xs
      simp only
      cases hy : xs[xs.length - 1]? with
      | none => simp [hy]
      | some y => simp [hy]
/-- indices -/
def wKs : List (Ev → Ou Vl) → Ev → (List Int → Ev → Prop) → Prop
  | [], r, Q => Q [] r
  | f :: fs, r, Q => wKs fs r fun ks r1 => wE f r1 fun k r2 => match k.1 with
    | .i k => Q (ks ++ [k]) r2
    | _ => False
@[simp] theorem wKs_n {Q : List Int → Ev → Prop} : wKs [] r Q = Q [] r := id rfl
@[simp] theorem wKs_c {Q : List Int → Ev → Prop} : wKs (f :: fs) r Q = wKs fs r fun ks r1 => wE f r1 fun k r2 => match k.1 with
    | .i k => Q (ks ++ [k]) r2
    | _ => False := id rfl
theorem wKs_ev : ∀ {fs : List (Ev → Ou Vl)} {r : Ev} {Q : List Int → Ev → Prop}, wKs fs r Q = match evK fs r with
    | some (ks, r1) => Q ks r1
    | none => False
  | [], r, Q => rfl
  | f :: fs, r, Q => by
    simp only [wKs, evK]
    rw [wKs_ev]
    cases evK fs r with
    | none => rfl
    | some p =>
      obtain ⟨ks, r1⟩ := p
      unfold wE
      simp only
      cases f r1 with
      | ok k r2 =>
        obtain ⟨k, mk⟩ := k
        cases k <;> rfl
      | ex _ _ _ => rfl
      | no => rfl
/-- an item and its place -/
def wAj (xs : List Dt) (k : Int) (Q : Nat → Dt → Prop) : Prop := ∃ j x, ixN xs.length k = some j ∧ xs[j]? = some x ∧ Q j x
theorem wAj_nat {k : Nat} {Q : Nat → Dt → Prop} : wAj xs (k : Int) Q = ∃ x, xs[k]? = some x ∧ Q k x := by
  unfold wAj
  by_cases h : k < xs.length
  · rw [ixN_nat h]; simp
  · rw [List.getElem?_eq_none (by omega)]
    unfold ixN
    rw [if_pos (by omega)]
    simp [h]
@[simp] theorem wAj_0 {Q : Nat → Dt → Prop} : wAj (x :: xs) 0 Q = Q 0 x := by
  have := @wAj_nat (x :: xs) 0 Q
  simpa using this
@[simp] theorem wAj_1 {x' : Dt} {Q : Nat → Dt → Prop} : wAj (x' :: x :: xs) 1 Q = Q 1 x := by
  have := @wAj_nat (x' :: x :: xs) 1 Q
  simpa using this
@[simp] theorem wAj_2 {x' x2 : Dt} {Q : Nat → Dt → Prop} : wAj (x' :: x2 :: x :: xs) 2 Q = Q 2 x := by
  have := @wAj_nat (x' :: x2 :: x :: xs) 2 Q
  simpa using this
/-- one more at that path -/
def wUp : Dt → List Int → Dt → (Dt → Prop) → Prop
  | .l xs, [], y, Q => xs.length < LIM ∧ Q (.l (xs ++ [y]))
  | .l xs, k :: ks, y, Q => wAj xs k fun j x => wUp x ks y fun x' => Q (.l (xs.set j x'))
  | _, _, _, _ => False
@[simp] theorem wUp_n {Q : Dt → Prop} : wUp (.l xs) [] y Q = (xs.length < LIM ∧ Q (.l (xs ++ [y]))) := id rfl
@[simp] theorem wUp_c {k : Int} {ks : List Int} {Q : Dt → Prop} : wUp (.l xs) (k :: ks) y Q = wAj xs k fun j x => wUp x ks y fun x' => Q (.l (xs.set j x')) := id rfl
theorem wUp_ev : ∀ {ks : List Int} {x : Dt} {Q : Dt → Prop}, wUp x ks y Q → ∃ ys x', getP x ks = some (.l ys) ∧ ys.length < LIM ∧ apP y x ks = some x' ∧ Q x'
  | [], x, Q, h => by
    cases x with
    | l xs => exact ⟨xs, _, rfl, h.1, by simp [apP, h.1], h.2⟩
    | _ => exact h.elim
  | k :: ks, x, Q, h => by
    cases x with
    | l xs =>
      obtain ⟨j, x1, h1, h2, h3⟩ := h
      obtain ⟨ys, x', g1, g2, g3, g4⟩ := wUp_ev h3
      exact ⟨ys, _, by simp [getP, atI, h1, h2, g1], g2, by simp [apP, h1, h2, g3], g4⟩
    | _ => exact h.elim
theorem wS_apN (h : wG r[i]? fun x0 m => m = .a ∧ setK r i none fun r0 => wKs fs r0 fun ks r1 => wE f r1 fun y r2 => y.1.flat = true ∧ wUp x0 ks y.1 fun x' => setK r2 i (some (x', .a)) Qn) : wS (sApN i fs f) r Qn Qr Qb Qc := by
  unfold wG setK at h
  unfold wS
  simp only [sApN]
  cases hr : r[i]? with
  | none => rw [hr] at h; exact h.elim
  | some o =>
    cases o with
    | none => rw [hr] at h; exact h.elim
    | some x0 =>
      obtain ⟨x0, m0⟩ := x0
      rw [hr] at h
      obtain ⟨rfl, h⟩ := h
      rw [wKs_ev] at h
      simp only
      cases hk : evK fs (r.set i none) with
      | none => rw [hk] at h; exact h.elim
      | some p =>
        obtain ⟨ks, r1⟩ := p
        rw [hk] at h
        simp only at h ⊢
        unfold wE at h
        cases hf : f r1 with
        | ok y r2 =>
          rw [hf] at h
          obtain ⟨y, my⟩ := y
          obtain ⟨h1, h2⟩ := h
          obtain ⟨ys, x', g1, g2, g3, g4⟩ := wUp_ev h2
          simp only [g1, hf, h1, g2, g3, and_self, if_true]
          exact g4
        | ex _ _ _ => rw [hf] at h; exact h.elim
        | no => rw [hf] at h; exact h.elim
/-! repr -/
/-- how much there is to be told: all numbers of at most 64 bits | how many things -/
def lf : Dt → Bool
  | .n => true
  | .b _ => true
  | .i a => decide (a.natAbs < 2 ^ 64)
  | .s _ => false
  | .t xs => lfL xs
  | .l xs => lfL xs
  | _ => false
where lfL : List Dt → Bool
  | [] => true
  | x :: xs => lf x && lfL xs
def bk : Dt → Nat
  | .t xs => bkL xs
  | .l xs => bkL xs
  | _ => 0
where bkL : List Dt → Nat
  | [] => 0
  | x :: xs => bk x + 1 + bkL xs
def dp : Dt → Nat
  | .t xs => dpL xs + 1
  | .l xs => dpL xs + 1
  | _ => 0
where dpL : List Dt → Nat
  | [] => 0
  | x :: xs => max (dp x) (dpL xs)
theorem log_short {a : Int} (h : a.natAbs < 2 ^ 64) : a.natAbs.log2 < 1920 := by
  by_cases h0 : a.natAbs = 0
  · rw [h0]; decide
  · have := (Nat.log2_lt h0).mpr h
    omega
theorem int_short {a : Int} (h : a.natAbs < 2 ^ 64) : (PyData.shown (.int a)).length ≤ 70 := by
  show (Str.ofString (toString a)).length ≤ 70
  rw [PySem.ofString_length]
  have h0 : a.natAbs.log2 < 64 := by
    by_cases h0 : a.natAbs = 0
    · rw [h0]; decide
    · exact (Nat.log2_lt h0).mpr h
  have := int_text_length_le (k := 64) (by decide) h0
  omega
mutual
theorem lf_ok : ∀ x : Dt, lf x = true → ((toP x).leavesShort 70 = true ∧ (toP x).showable = true) ∧ (toP x).hasDict = false ∧ (toP x).bulk = bk x ∧ (toP x).depth = dp x
  | .n, _ => ⟨⟨rfl, rfl⟩, rfl, rfl, rfl⟩
  | .b _, _ => ⟨⟨rfl, rfl⟩, rfl, rfl, rfl⟩
  | .i a, h => by
    have h : a.natAbs < 2 ^ 64 := by simpa [lf] using h
    exact ⟨⟨by simp only [toP, PyData.leavesShort, decide_eq_true_eq]; exact int_short h, by simp only [toP, PyData.showable, decide_eq_true_eq]; exact log_short h⟩, rfl, rfl, rfl⟩
  | .t xs, h => by
    obtain ⟨⟨h1, h2⟩, h3, h4, h5⟩ := lfL_ok xs (by simpa [lf] using h)
    exact ⟨⟨by simpa [toP, PyData.leavesShort] using h1, by simpa [toP, PyData.showable] using h2⟩, by simpa [toP, PyData.hasDict] using h3, by simpa [toP, PyData.bulk, bk] using h4, by simpa [toP, PyData.depth, dp] using h5⟩
  | .l xs, h => by
    obtain ⟨⟨h1, h2⟩, h3, h4, h5⟩ := lfL_ok xs (by simpa [lf] using h)
    exact ⟨⟨by simpa [toP, PyData.leavesShort] using h1, by simpa [toP, PyData.showable] using h2⟩, by simpa [toP, PyData.hasDict] using h3, by simpa [toP, PyData.bulk, bk] using h4, by simpa [toP, PyData.depth, dp] using h5⟩
  | .s _, h => by simp [lf] at h
  | .z _, h => by simp [lf] at h
  | .m _ _, h => by simp [lf] at h
  | .o _ _ _, h => by simp [lf] at h
theorem lfL_ok : ∀ xs : List Dt, lf.lfL xs = true → (PyData.leavesShortAll 70 (toPL xs) = true ∧ PyData.showableAll (toPL xs) = true) ∧ PyData.hasDictAll (toPL xs) = false ∧ PyData.bulkAll (toPL xs) = bk.bkL xs ∧ PyData.depthAll (toPL xs) = dp.dpL xs
  | [], _ => ⟨⟨rfl, rfl⟩, rfl, rfl, rfl⟩
  | x :: xs, h => by
    simp only [lf.lfL, Bool.and_eq_true] at h
    obtain ⟨⟨h1, h2⟩, h3, h4, h5⟩ := lf_ok x h.1
    obtain ⟨⟨k1, k2⟩, k3, k4, k5⟩ := lfL_ok xs h.2
    exact ⟨⟨by simp [toPL, PyData.leavesShortAll, h1, k1], by simp [toPL, PyData.showableAll, h2, k2]⟩, by simp [toPL, PyData.hasDictAll, h3, k3], by simp [toPL, PyData.bulkAll, bk.bkL, h4, k4], by simp [toPL, PyData.depthAll, dp.dpL, h5, k5]⟩
end
theorem wO_repr {Q : Dt → Md → Prop} (hs : isSq x = true) (h1 : lf x = true) (h2 : bk x ≤ 200000) (h3 : dp x ≤ 20) (q : Q (.s (shw x)) .c) : wO (fRepr [x]) Q := by
  obtain ⟨⟨a1, a2⟩, a3, a4, a5⟩ := lf_ok x h1
  have h := PyData.shown_le_bulk 70 (by decide) (toP x) a1
  have hz : (toP x).shown.length ≤ sizeLine := by
    rw [a4] at h
    have : (70 + 2) * bk x ≤ 72 * 200000 := Nat.mul_le_mul (by omega) h2
    have e : sizeLine = 16777216 := rfl
    omega
  have : rpD x = true := by simp [rpD, a2, a3, a5, hz, h3]
  simp only [fRepr, hs, this, Bool.and_self, if_true, wO_some]
  exact q
end
end Y
/-! W, part D: chains, sorting, membership, equality of rows of numbers. -/
namespace Y
open PySem L2 PyProof.Rows
section
variable {f g : Ev → Ou Vl} {r : Ev} {i n : Nat} {a b k : Int} {x y : Dt} {m : Md} {xs ys : List Dt}
def wC2 (xs : List Dt) (Q : Dt → Int → Prop) : Prop := match xs with
  | [x, .i b] => Q x b
  | _ => False
def wC1 (xs : List Dt) (Q : Dt → Prop) : Prop := match xs with
  | [z] => Q z
  | _ => False
@[simp] theorem wC2_i {Q : Dt → Int → Prop} : wC2 [x, .i b] Q = Q x b := id rfl
@[simp] theorem wC1_1 {Q : Dt → Prop} : wC1 [x] Q = Q x := id rfl
@[simp] theorem wE_Ch {p p' : List Dt → Option Vl} {A B C : Am} {Q : Vl → Ev → Prop} : wE (mCh p p' A B C) r Q = wA [A, B] r fun ys r1 => wL (look r1 ys) fun xs => wC2 xs fun x b => wO (p [x, .i b]) fun k _ => match k with
    | .b k => (k = true → wA [C] r1 fun zs r2 => wL (look r2 zs) fun zs => wC1 zs fun z => wO (p' [.i b, z]) fun k _ => match k with
        | .b k => Q (.b k, .c) r2
        | _ => False) ∧ (k = false → Q (.b false, .c) r1)
    | _ => False := by
  unfold wE
  conv => rhs; unfold wA wL wC2
  simp only [mCh]
  cases evA [A, B] r with
  | ok ys r1 =>
    simp only
    cases look r1 ys with
    | none => rfl
    | some xs =>
      simp only
      match xs with
      | [] => rfl
      | [_] => rfl
      | _ :: y :: _ :: _ => cases y <;> rfl
      | [x, .n] => rfl
      | [x, .b _] => rfl
      | [x, .s _] => rfl
      | [x, .t _] => rfl
      | [x, .l _] => rfl
      | [x, .z _] => rfl
      | [x, .m _ _] => rfl
      | [x, .o _ _ _] => rfl
      | [x, .i b] =>
        simp only
        unfold wO
        cases p [x, .i b] with
        | none => rfl
        | some v =>
          obtain ⟨v, mv⟩ := v
          cases v with
          | b k =>
            cases k with
            | false => simp
            | true =>
              simp only [true_implies, Bool.true_eq_false, false_implies, and_true]
              cases evA [C] r1 with
              | ok zs r2 =>
                simp only
                cases look r2 zs with
                | none => rfl
                | some us =>
                  simp only
                  match us with
                  | [] => rfl
                  | _ :: _ :: _ => rfl
                  | [z] =>
                    simp only [wC1_1]
                    cases p' [.i b, z] with
                    | none => rfl
                    | some w =>
                      obtain ⟨w, mw⟩ := w
                      cases w <;> rfl
              | ex _ _ _ => rfl
              | no => rfl
          | _ => rfl
  | ex _ _ _ => rfl
  | no => rfl
theorem cMulL (h1 : -18446744073709551616 < a) (h2 : a < 18446744073709551616) : cMul a b = true := cMul_l (by omega) (by omega)
theorem cMulR (h1 : -18446744073709551616 < b) (h2 : b < 18446744073709551616) : cMul a b = true := cMul_r (by omega) (by omega)
theorem logB (h1 : 0 < b) (h2 : b < 18446744073709551616) : (b.natAbs.log2 < 9000) = True := eq_true (log_ok h1 (by omega))
theorem natB (h1 : -18446744073709551616 < b) (h2 : b < 18446744073709551616) : (b.natAbs < 18446744073709551616) = True := eq_true (by omega)
theorem castN (n : Nat) : ((no_index (OfNat.ofNat n) : Nat) : Int) = OfNat.ofNat n := rfl
theorem castM : ((1000000 : Nat) : Int) = 1000000 := rfl
@[simp] theorem zfl_c : zfl (x, .c) = x.flat := id rfl
@[simp] theorem zfl_lt : zfl (.l xs, .t) = flatL xs := id rfl
@[simp] theorem zfl_a : zfl (x, .a) = true := by simp [zfl]
theorem flat_b (ns : List Bool) : flatL (ns.map .b) = true := by
  induction ns with
  | nil => rfl
  | cons n ns ih => simp [flatL, Dt.flat, ih]
/-- the shapes that are told: repr -/
theorem bk_i (ns : List Int) : bk.bkL (ns.map .i) = ns.length := by
  induction ns with
  | nil => rfl
  | cons n ns ih => simp [bk.bkL, bk, ih]; omega
theorem dp_i (ns : List Int) : dp.dpL (ns.map .i) = 0 := by
  induction ns with
  | nil => rfl
  | cons n ns ih => simp [dp.dpL, dp, ih]
theorem lf_i {ns : List Int} (h : ∀ a ∈ ns, a.natAbs < 2 ^ 64) : lf.lfL (ns.map .i) = true := by
  induction ns with
  | nil => rfl
  | cons n ns ih =>
    simp only [List.map_cons, lf.lfL, lf, Bool.and_eq_true, decide_eq_true_eq]
    exact ⟨h n List.mem_cons_self, ih fun a ha => h a (List.mem_cons_of_mem _ ha)⟩
/-- .. equality -/
theorem pl_i {d : Nat} : pl (d + 1) (.i a) = true := rfl
theorem pl_ti {d : Nat} {ns : List Int} (h : ns.length ≤ 1000) : pl (d + 2) (.t (ns.map .i)) = true := by
  simp only [pl, Bool.and_eq_true, decide_eq_true_eq, List.length_map, List.all_eq_true]
  refine ⟨lim3 h, fun x hx => ?_⟩
  obtain ⟨a, _, rfl⟩ := List.mem_map.mp hx
  rfl
theorem pl_li {d : Nat} {ns : List Int} (h : ns.length ≤ 1000) : pl (d + 2) (.l (ns.map .i)) = true := by
  simp only [pl, Bool.and_eq_true, decide_eq_true_eq, List.length_map, List.all_eq_true]
  refine ⟨lim3 h, fun x hx => ?_⟩
  obtain ⟨a, _, rfl⟩ := List.mem_map.mp hx
  rfl
theorem pl_t {d : Nat} (hl : xs.length ≤ 1000) (h : ∀ x ∈ xs, pl d x = true) : pl (d + 1) (.t xs) = true := by
  simp only [pl, Bool.and_eq_true, decide_eq_true_eq, List.all_eq_true]
  exact ⟨lim3 hl, h⟩
theorem pl_l {d : Nat} (hl : xs.length ≤ 1000) (h : ∀ x ∈ xs, pl d x = true) : pl (d + 1) (.l xs) = true := by
  simp only [pl, Bool.and_eq_true, decide_eq_true_eq, List.all_eq_true]
  exact ⟨lim3 hl, h⟩
/-! sorting -/
def isrt (ns : List Int) : List Int := ns.mergeSort fun a b => decide (a ≤ b)
theorem isrt_perm (ns : List Int) : (isrt ns).Perm ns := List.mergeSort_perm _ _
theorem isrt_len (ns : List Int) : (isrt ns).length = ns.length := (isrt_perm ns).length_eq
theorem isrt_mem {ns : List Int} : a ∈ isrt ns ↔ a ∈ ns := (isrt_perm ns).mem_iff
theorem isrt_le (ns : List Int) : (isrt ns).Pairwise (· ≤ ·) := by
  have := List.pairwise_mergeSort (le := fun a b : Int => decide (a ≤ b)) (by intro a b c h1 h2; simp at *; omega) (by intro a b; simp; omega) ns
  exact this.imp fun h => by simpa using h
theorem isrt_id {ns : List Int} (h : ns.Pairwise (· ≤ ·)) : isrt ns = ns := List.mergeSort_of_pairwise (h.imp fun h => by simpa using h)
theorem sort_uniq : ∀ {ns ms : List Int}, ns.Perm ms → ns.Pairwise (· ≤ ·) → ms.Pairwise (· ≤ ·) → ns = ms := fun p h1 h2 => List.Perm.eq_of_pairwise (fun a b _ _ h1 h2 => Int.le_antisymm h1 h2) h1 h2 p
theorem isrt_eq {ns ms : List Int} (p : ms.Perm ns) (h : ms.Pairwise (· ≤ ·)) : isrt ns = ms := sort_uniq ((isrt_perm ns).trans p.symm) (isrt_le ns) h
theorem leD_i : leD (.i a) (.i b) = decide (a ≤ b) := congrFun (congrFun (PySem.W.dataLe_int (id : Int → Int)) a) b
theorem sortD_i (ns : List Int) : sortD (ns.map .i) = (isrt ns).map .i := (List.map_mergeSort (f := Dt.i) (s := leD) fun a _ b _ => leD_i.symm).symm
theorem okSort_i {ns : List Int} (h : ns.length ≤ LIM) : okSort (ns.map .i) = true := by
  simp only [okSort, alikeL, sortable, Bool.and_eq_true, List.all_eq_true, List.mem_map, decide_eq_true_eq, Bool.or_eq_true, List.length_map]
  refine ⟨⟨⟨?_, .inr ?_⟩, ?_⟩, h⟩
  · rintro _ ⟨_, ⟨a, _, rfl⟩, rfl⟩ _ ⟨_, ⟨b, _, rfl⟩, rfl⟩
    rfl
  · rintro _ ⟨_, ⟨a, _, rfl⟩, rfl⟩
    rfl
  · rintro _ ⟨a, _, rfl⟩
    show PyData.depth (.int a) ≤ 50
    simp [PyData.depth]
theorem wO_srtL {ns : List Int} {Q : Dt → Md → Prop} (h : ns.length ≤ 1000) : wO (fSorted [.l (ns.map .i)]) Q = Q (.l ((isrt ns).map .i)) .t := by
  simp only [fSorted, okSort_i (lim3 h), sortD_i]; rfl
theorem wO_srtT {ns : List Int} {Q : Dt → Md → Prop} (h : ns.length ≤ 1000) : wO (fSorted [.t (ns.map .i)]) Q = Q (.l ((isrt ns).map .i)) .t := by
  simp only [fSorted, okSort_i (lim3 h), sortD_i]; rfl
/-- pairs of numbers -/
def pr (p : Int × Int) : Dt := .t [.i p.1, .i p.2]
def ple (p q : Int × Int) : Bool := decide (p.1 < q.1 ∨ (p.1 = q.1 ∧ p.2 ≤ q.2))
def psrt (ps : List (Int × Int)) : List (Int × Int) := ps.mergeSort ple
theorem psrt_perm (ps : List (Int × Int)) : (psrt ps).Perm ps := List.mergeSort_perm _ _
theorem psrt_len (ps : List (Int × Int)) : (psrt ps).length = ps.length := (psrt_perm ps).length_eq
theorem leD_p {p q : Int × Int} : leD (pr p) (pr q) = ple p q := congrFun (congrFun (PySem.W.dataLe_ii (fun p : Int × Int => p.1) fun p => p.2) p) q
theorem sortD_p (ps : List (Int × Int)) : sortD (ps.map pr) = (psrt ps).map pr := (List.map_mergeSort (f := pr) (s := leD) fun a _ b _ => leD_p.symm).symm
theorem okSort_p {ps : List (Int × Int)} (h : ps.length ≤ LIM) : okSort (ps.map pr) = true := by
  simp only [okSort, alikeL, sortable, Bool.and_eq_true, List.all_eq_true, List.mem_map, decide_eq_true_eq, Bool.or_eq_true, List.length_map]
  refine ⟨⟨⟨?_, .inl ?_⟩, ?_⟩, h⟩
  · rintro _ ⟨_, ⟨a, _, rfl⟩, rfl⟩ _ ⟨_, ⟨b, _, rfl⟩, rfl⟩
    rfl
  · rintro _ ⟨_, ⟨a, _, rfl⟩, rfl⟩
    rfl
  · rintro _ ⟨a, _, rfl⟩
    show PyData.depth (.tuple [.int a.1, .int a.2]) ≤ 50
    simp [PyData.depth, PyData.depthAll]
theorem wO_srtP {ps : List (Int × Int)} {Q : Dt → Md → Prop} (h : ps.length ≤ LIM) : wO (fSorted [.l (ps.map pr)]) Q = Q (.l ((psrt ps).map pr)) .t := by
  simp only [fSorted, okSort_p h, sortD_p]; rfl
/-! membership, equality -/
theorem shp_ti (ns : List Int) : shp (.t (ns.map .i)) = true := by
  have := shp_li ns
  unfold shp SeqAt.shaped at this ⊢
  simpa [toP, PyData.canLay0, PyData.depth] using this
theorem any_i {ns : List Int} : (ns.map Dt.i).any (fun z => eqD z (.i a)) = decide (a ∈ ns) := by
  induction ns with
  | nil => rfl
  | cons n ns ih =>
    rw [List.map_cons, List.any_cons, ih, eqD_i]
    by_cases h : n = a
    · subst h; simp
    · simp [h, Ne.symm h]
theorem wO_inL {ns : List Int} {Q : Dt → Md → Prop} : wO (fInA false [.i a, .l (ns.map .i)]) Q = Q (.b (decide (a ∈ ns))) .c := by
  simp only [fInA, shp_i, shp_li, shp_ti, inL, any_i, Bool.and_self, if_true, Bool.false_eq_true, if_false]; rfl
theorem wO_inT {ns : List Int} {Q : Dt → Md → Prop} : wO (fInA false [.i a, .t (ns.map .i)]) Q = Q (.b (decide (a ∈ ns))) .c := by
  simp only [fInA, shp_i, shp_li, shp_ti, inL, any_i, Bool.and_self, if_true, Bool.false_eq_true, if_false]; rfl
theorem wO_ninL {ns : List Int} {Q : Dt → Md → Prop} : wO (fInA true [.i a, .l (ns.map .i)]) Q = Q (.b (!decide (a ∈ ns))) .c := by
  simp only [fInA, shp_i, shp_li, shp_ti, inL, any_i, Bool.and_self, if_true, Bool.false_eq_true, if_false]; rfl
theorem wO_ninT {ns : List Int} {Q : Dt → Md → Prop} : wO (fInA true [.i a, .t (ns.map .i)]) Q = Q (.b (!decide (a ∈ ns))) .c := by
  simp only [fInA, shp_i, shp_li, shp_ti, inL, any_i, Bool.and_self, if_true, Bool.false_eq_true, if_false]; rfl
theorem eqD_ti (ns ms : List Int) : eqD (.t (ns.map .i)) (.t (ms.map .i)) = decide (ns = ms) := by
  have := eqD_li ns ms
  simpa [eqD, toP, PyData.eqv] using this
theorem wO_eqLi {ns ms : List Int} {Q : Dt → Md → Prop} : wO (fEq [.l (ns.map .i), .l (ms.map .i)]) Q = Q (.b (decide (ns = ms))) .c := by
  rw [wO_eqL]; simp [shp_li, eqD_li]
theorem wO_neLi {ns ms : List Int} {Q : Dt → Md → Prop} : wO (fNe [.l (ns.map .i), .l (ms.map .i)]) Q = Q (.b (!decide (ns = ms))) .c := by
  rw [wO_neL]; simp [shp_li, eqD_li]
theorem wO_eqTi {ns ms : List Int} {Q : Dt → Md → Prop} : wO (fEq [.t (ns.map .i), .t (ms.map .i)]) Q = Q (.b (decide (ns = ms))) .c := by
  rw [wO_eqT]; simp [shp_ti, eqD_ti]
theorem nil_i : ([] : List Dt) = ([] : List Int).map .i := rfl
theorem wO_eqL0 {ns : List Int} {Q : Dt → Md → Prop} : wO (fEq [.l (ns.map .i), .l []]) Q = Q (.b (decide (ns = []))) .c := wO_eqLi (ms := [])
theorem wO_neL0 {ns : List Int} {Q : Dt → Md → Prop} : wO (fNe [.l (ns.map .i), .l []]) Q = Q (.b (!decide (ns = []))) .c := wO_neLi (ms := [])
theorem wO_eqT0 {ns : List Int} {Q : Dt → Md → Prop} : wO (fEq [.t (ns.map .i), .t []]) Q = Q (.b (decide (ns = []))) .c := wO_eqTi (ms := [])
/-- the greatest -/
theorem wO_maxT {ns : List Int} {Q : Dt → Md → Prop} (h : ns ≠ []) : wO (fMax1 [.t (ns.map .i)]) Q = Q (.i (lmax (ns.headD 0) ns.tail)) .c := by
  cases ns with
  | nil => exact absurd rfl h
  | cons a ns => exact wO_max1T
theorem wO_maxL {ns : List Int} {Q : Dt → Md → Prop} (h : ns ≠ []) : wO (fMax1 [.l (ns.map .i)]) Q = Q (.i (lmax (ns.headD 0) ns.tail)) .c := by
  cases ns with
  | nil => exact absurd rfl h
  | cons a ns => exact wO_max1
theorem wAt_P {P Q : Dt → Prop} (h0 : 0 ≤ k) (h1 : k < xs.length) (hp : ∀ y ∈ xs, P y) (q : ∀ y, P y → Q y) : wAt xs k Q := by
  obtain ⟨n, rfl⟩ := Int.eq_ofNat_of_zero_le h0
  have hn : n < xs.length := by omega
  exact ⟨xs[n], by rw [Y.atI_nat]; simp [hn], q _ (hp _ (List.getElem_mem hn))⟩
/-- .. of numbers of that kind -/
theorem wAt_I {P : Int → Prop} {Q : Dt → Prop} {ns : List Int} (h0 : 0 ≤ k) (h1 : k < ns.length) (hp : ∀ y ∈ ns, P y) (q : ∀ y, P y → Q (.i y)) : wAt (ns.map .i) k Q :=
  wAt_i h0 h1 fun c hc => q c (hp c (List.mem_of_getElem? hc))
/-- comprehensions over rows of numbers; the state stays -/
theorem lc_fI {own : Bool} {vs : List Nat} {t : Vl → Ev → Option Ev} {c : Ev → Ou Bool} {ns : List Int} (p : Int → Bool) (G : Int → Dt) (h : ∀ a ∈ ns, wK (t (.i a, .c) r) fun r1 => wT c r1 fun b r2 => b = p a ∧ (b = false → wipeE r2 vs = r) ∧ (b = true → wE f r2 fun y r3 => y.1 = G a ∧ (own = true → zfl y = true) ∧ wipeE r3 vs = r)) :
    lcL vs t c f own (ns.map .i) r [] = .ok ((ns.filter p).map G) r := by
  have := lc_filter (vs := vs) (t := t) (c := c) (f := f) (own := own) (r := r) (fun x => match x with | .i w => p w | _ => false) (fun x => match x with | .i w => G w | _ => x) (ns.map .i) [] (fun x hx => by
    obtain ⟨a, ha, rfl⟩ := List.mem_map.mp hx
    exact h a ha)
  rw [this, List.nil_append, List.filter_map, List.map_map]
  rfl
theorem lc_mI {own : Bool} {vs : List Nat} {t : Vl → Ev → Option Ev} {c : Ev → Ou Bool} {ns : List Int} (G : Int → Dt) (h : ∀ a ∈ ns, wK (t (.i a, .c) r) fun r1 => wT c r1 fun b r2 => b = true ∧ wE f r2 fun y r3 => y.1 = G a ∧ (own = true → zfl y = true) ∧ wipeE r3 vs = r) :
    lcL vs t c f own (ns.map .i) r [] = .ok (ns.map G) r := by
  have := lc_map (vs := vs) (t := t) (c := c) (f := f) (own := own) (r := r) (fun x => match x with | .i w => G w | _ => x) (ns.map .i) [] (fun x hx => by
    obtain ⟨a, ha, rfl⟩ := List.mem_map.mp hx
    exact h a ha)
  rw [this, List.nil_append, List.map_map]
  rfl
theorem cutD_sub {l h : Option Int} : (cutD xs l h).Sublist xs := (List.take_sublist _ _).trans (List.drop_sublist _ _)
/-- a comprehension whose state goes on -/
theorem lc_inv {own : Bool} {vs : List Nat} {t : Vl → Ev → Option Ev} {c : Ev → Ou Bool} {Q : List Dt → Ev → Prop} (P : Nat → Ev → List Dt → Prop) (h0 : P 0 r [])
    (hs : ∀ i x r acc, xs[i]? = some x → P i r acc → wK (t (x, .c) r) fun r1 => wT c r1 fun b r2 => (b = false → P (i + 1) (wipeE r2 vs) acc) ∧ (b = true → wE f r2 fun y r3 => (own = true → zfl y = true) ∧ P (i + 1) (wipeE r3 vs) (acc ++ [y.1])))
    (hq : ∀ ys r2, P xs.length r2 ys → Q ys r2) : ∃ ys r2, lcL vs t c f own xs r [] = .ok ys r2 ∧ Q ys r2 := by
  have go : ∀ (zs : List Dt) (k : Nat) (r : Ev) (acc : List Dt), (∀ i, zs[i]? = xs[k + i]?) → k + zs.length = xs.length → P k r acc → ∃ ys r2, lcL vs t c f own zs r acc = .ok ys r2 ∧ Q ys r2 := by
    intro zs
    induction zs with
    | nil =>
      intro k r acc _ hk hp
      have : k = xs.length := by simpa using hk
      subst this
      exact ⟨acc, r, rfl, hq _ _ hp⟩
    | cons z zs ih =>
      intro k r acc hz hk hp
      have h1 := hs k z r acc (by have := hz 0; simpa using this.symm) hp
      have nx : ∀ r3 acc3, P (k + 1) r3 acc3 → ∃ ys r2, lcL vs t c f own zs r3 acc3 = .ok ys r2 ∧ Q ys r2 := fun r3 acc3 h3 => ih (k + 1) r3 acc3 (fun i => by
        have := hz (i + 1)
        rw [show k + (i + 1) = k + 1 + i by omega] at this
        simpa using this) (by simp at hk; omega) h3
      unfold wK at h1
      simp only [lcL]
      cases ht : t (z, .c) r with
      | none => rw [ht] at h1; exact h1.elim
      | some r1 =>
        rw [ht] at h1
        simp only at h1 ⊢
        unfold wT at h1
        cases hc : c r1 with
        | ok b r2 =>
          rw [hc] at h1
          obtain ⟨h2, h3⟩ := h1
          cases b with
          | false => exact nx _ _ (h2 rfl)
          | true =>
            have h3 := h3 rfl
            unfold wE at h3
            simp only
            cases hf : f r2 with
            | ok y r3 =>
              rw [hf] at h3
              obtain ⟨y, my⟩ := y
              obtain ⟨h4, h5⟩ := h3
              simp only
              rw [if_neg (by cases own <;> simp_all)]
              exact nx _ _ h5
            | ex _ _ _ => rw [hf] at h3; exact h3.elim
            | no => rw [hf] at h3; exact h3.elim
        | ex _ _ _ => rw [hc] at h1; exact h1.elim
        | no => rw [hc] at h1; exact h1.elim
  exact go xs 0 r [] (fun i => by simp) (by simp) h0
/-- slices of rows of numbers -/
theorem cut_i (ns : List Int) (l h : Option Int) : ∃ ms : List Int, cutD (ns.map .i) l h = ms.map .i ∧ ms.Sublist ns := by
  refine ⟨(ns.drop (HT.sIx ns.length 0 l)).take (HT.sIx ns.length ns.length h - HT.sIx ns.length 0 l), ?_, (List.take_sublist _ _).trans (List.drop_sublist _ _)⟩
  simp [cutD, List.map_take, List.map_drop]
/-- a number of a row -/
theorem getI {ns : List Int} {j : Nat} {c : Int} (h : ns[j]? = some c) : c ∈ ns := List.mem_of_getElem? h
end
end Y
/-! W, part E: rows of rows, houses. -/
namespace Y
open PySem L2 PyProof.Rows
section
variable {r : Ev} {i n : Nat} {a b k : Int} {x y : Dt} {m : Md} {xs ys : List Dt} {α : Type}
@[simp] theorem wO_mulT {Q : Dt → Md → Prop} : wO (fMul [.t xs, .i k]) Q = ((xs ≠ [] ∧ -1000000 ≤ k ∧ k ≤ 1000 ∧ xs.length ≤ 1000) ∧ Q (.t (List.replicate k.toNat xs).flatten) .c) := by
  simp only [fMul, fMulI, fIC, fRepL, fRepT, Option.none_or]
  by_cases h : xs ≠ [] ∧ -1000000 ≤ k ∧ k ≤ 1000 ∧ xs.length ≤ 1000
  · rw [if_pos h]; simp [h]
  · rw [if_neg h]; simp only [h, false_and, wO_none]
@[simp] theorem wL_enumT {QL : List Dt → Prop} : wL (sEnum [.t xs]) QL = QL (enumD 0 xs) := id rfl
theorem wAt_M {f : α → Dt} {us : List α} {Q : Dt → Prop} (h0 : 0 ≤ k) (h1 : k < us.length) (q : ∀ x, us[k.toNat]? = some x → Q (f x)) : wAt (us.map f) k Q := by
  obtain ⟨n, rfl⟩ := Int.eq_ofNat_of_zero_le h0
  have hn : n < us.length := by omega
  exact ⟨f us[n], by rw [Y.atI_nat]; simp [hn], q _ (by simp [hn])⟩
theorem wSt_M {f : α → Dt} {us : List α} {y : α} {Q : List Dt → Prop} (h0 : 0 ≤ k) (h1 : k < us.length) (q : Q ((us.set k.toNat y).map f)) : wSt (us.map f) k (f y) Q := by
  obtain ⟨n, rfl⟩ := Int.eq_ofNat_of_zero_le h0
  have hn : n < us.length := by omega
  refine ⟨n, ixN_nat (by simpa using hn), ?_⟩
  have e : (us.set n y).map f = (us.map f).set n (f y) := by simp [List.map_set]
  have q : Q ((us.set n y).map f) := by simpa using q
  rw [← e]; exact q
theorem wAj_M {f : α → Dt} {us : List α} {Q : Nat → Dt → Prop} (h0 : 0 ≤ k) (h1 : k < us.length) (q : ∀ x, us[k.toNat]? = some x → Q k.toNat (f x)) : wAj (us.map f) k Q := by
  obtain ⟨n, rfl⟩ := Int.eq_ofNat_of_zero_le h0
  have hn : n < us.length := by omega
  exact ⟨n, f us[n], ixN_nat (by simpa using hn), by simp [hn], by simpa using q us[n] (by simp [hn])⟩
/-! shapes -/
mutual
theorem pl_can : ∀ (d : Nat) (x : Dt), pl d x = true → (toP x).canLay0 = true ∧ (toP x).depth ≤ d
  | 0, x, h => by simp [pl] at h
  | d + 1, .n, _ => by simp [toP, PyData.canLay0, PyData.depth]
  | d + 1, .b _, _ => by simp [toP, PyData.canLay0, PyData.depth]
  | d + 1, .i _, _ => by simp [toP, PyData.canLay0, PyData.depth]
  | d + 1, .s z, h => by
    have h : PyData.strOk z = true := h
    simp [toP, PyData.canLay0, PyData.depth, h]
  | d + 1, .t xs, h => by
    simp only [pl, Bool.and_eq_true, List.all_eq_true, decide_eq_true_eq] at h
    obtain ⟨h1, h2⟩ := plL_can d xs h.2
    exact ⟨by simpa [toP, PyData.canLay0] using h1, by simp only [toP, PyData.depth]; omega⟩
  | d + 1, .l xs, h => by
    simp only [pl, Bool.and_eq_true, List.all_eq_true, decide_eq_true_eq] at h
    obtain ⟨h1, h2⟩ := plL_can d xs h.2
    exact ⟨by simpa [toP, PyData.canLay0] using h1, by simp only [toP, PyData.depth]; omega⟩
  | d + 1, .z _, h => by simp [pl] at h
  | d + 1, .m _ _, h => by simp [pl] at h
  | d + 1, .o _ _ _, h => by simp [pl] at h
theorem plL_can : ∀ (d : Nat) (xs : List Dt), (∀ x ∈ xs, pl d x = true) → PyData.canLayAll0 (toPL xs) = true ∧ PyData.depthAll (toPL xs) ≤ d
  | d, [], _ => by simp [toPL, PyData.canLayAll0, PyData.depthAll]
  | d, x :: xs, h => by
    obtain ⟨h1, h2⟩ := pl_can d x (h x List.mem_cons_self)
    obtain ⟨h3, h4⟩ := plL_can d xs fun z hz => h z (List.mem_cons_of_mem _ hz)
    exact ⟨by simp [toPL, PyData.canLayAll0, h1, h3], by simp only [toPL, PyData.depthAll]; omega⟩
end
theorem pl_shp {d : Nat} (h : pl d x = true) (hd : d ≤ 60) : shp x = true := by
  obtain ⟨h1, h2⟩ := pl_can d x h
  simp [shp, SeqAt.shaped, h1]; omega
theorem eqD_refl {d : Nat} (h : pl d x = true) : eqD x x = true := SeqAt.eqv_refl _ (pl_can d x h).1
theorem eqD_l0 : eqD (.l xs) (.l []) = xs.isEmpty := by
  cases xs <;> simp [eqD, toP, toPL, PyData.eqv, PyData.eqvAll]
theorem eqD_t0 : eqD (.t xs) (.t []) = xs.isEmpty := by
  cases xs <;> simp [eqD, toP, toPL, PyData.eqv, PyData.eqvAll]
theorem wO_neP0 {d : Nat} {Q : Dt → Md → Prop} (h : pl d (.l xs) = true) (hd : d ≤ 60) : wO (fNe [.l xs, .l []]) Q = Q (.b (!xs.isEmpty)) .c := by
  rw [wO_neL]; simp only [pl_shp h hd, shp_li [], eqD_l0, show shp (.l []) = true from shp_li [], true_and]
theorem wO_eqP0 {d : Nat} {Q : Dt → Md → Prop} (h : pl d (.l xs) = true) (hd : d ≤ 60) : wO (fEq [.l xs, .l []]) Q = Q (.b xs.isEmpty) .c := by
  rw [wO_eqL]; simp only [pl_shp h hd, shp_li [], eqD_l0, show shp (.l []) = true from shp_li [], true_and]
theorem eqD_nl : eqD .n (.l xs) = false := by simp [eqD, toP, PyData.eqv]
@[simp] theorem wO_eqN {Q : Dt → Md → Prop} : wO (fEq [.n, .l []]) Q = Q (.b false) .c := by
  rw [wO_eq fun z h => by cases h]; simp only [eqD_nl, show shp (.l []) = true from shp_li [], show shp .n = true from rfl, true_and]
/-! rows of rows -/
def rm (r : List Int) : Dt := .t (r.map .i)
def lm (r : List Int) : Dt := .l (r.map .i)
/-- a house -/
def hs (R : List (List Int)) (D : List Int) : Dt := .t [.t (R.map rm), .t (D.map .i)]
/-- .. told by lists -/
def hl (R : List (List Int)) (D : List Int) : Dt := .l [.l (R.map lm), .l (D.map .i)]
theorem flat_t (f : α → List Dt) (h : ∀ x, flatL (f x) = true) (us : List α) : flatL (us.map fun x => .t (f x)) = true := by
  induction us with
  | nil => rfl
  | cons u us ih => simp [flatL, Dt.flat, h, ih]
theorem flat_rm (R : List (List Int)) : flatL (R.map rm) = true := flat_t (fun r : List Int => r.map Dt.i) flat_i R
theorem flat_pr (ps : List (Int × Int)) : flatL (ps.map pr) = true := flat_t (fun p : Int × Int => [Dt.i p.1, Dt.i p.2]) (fun _ => rfl) ps
theorem flat_hs (R : List (List Int)) (D : List Int) : (hs R D).flat = true := by
  simp [hs, Dt.flat, flatL, flat_rm, flat_i]
@[simp] theorem flat_pr1 (p : Int × Int) : (pr p).flat = true := rfl
@[simp] theorem wM_hs {Q : Ev → Prop} {ag : List Ag} {R : List (List Int)} {D : List Int} : wM (hs R D, .c) ag r Q = Q r := wM_f (y := (hs R D, .c)) (by simp only [zfl, flat_hs])
@[simp] theorem wM_pr {Q : Ev → Prop} {ag : List Ag} {p : Int × Int} : wM (pr p, .c) ag r Q = Q r := wM_f (y := (pr p, .c)) rfl
theorem pl_pr {d : Nat} {ps : List (Int × Int)} (h : ps.length ≤ LIM) : pl (d + 3) (.l (ps.map pr)) = true := by
  simp only [pl, Bool.and_eq_true, decide_eq_true_eq, List.length_map, List.all_eq_true]
  refine ⟨h, fun x hx => ?_⟩
  obtain ⟨p, _, rfl⟩ := List.mem_map.mp hx
  simp [pr, pl, LIM]
theorem pl_rm {d : Nat} {r : List Int} (h : r.length ≤ 1000) : pl (d + 2) (rm r) = true := pl_ti h
theorem pl_hs {d : Nat} {R : List (List Int)} {D : List Int} (h : ∀ r ∈ R, r.length ≤ 1000) (hR : R.length ≤ 1000) (hD : D.length ≤ 1000) : pl (d + 4) (hs R D) = true := by
  refine pl_t (by simp) fun x hx => ?_
  simp only [List.mem_cons, List.not_mem_nil, or_false] at hx
  rcases hx with rfl | rfl
  · refine pl_t (by simpa using hR) fun x hx => ?_
    obtain ⟨r, hr, rfl⟩ := List.mem_map.mp hx
    exact pl_rm (h r hr)
  · exact pl_ti hD
theorem bk_rm (R : List (List Int)) : bk.bkL (R.map rm) = (R.map fun r => r.length + 1).sum := by
  induction R with
  | nil => rfl
  | cons r R ih => simp [bk.bkL, bk, rm, bk_i, ih]
theorem dp_rm (R : List (List Int)) : dp.dpL (R.map rm) ≤ 1 := by
  induction R with
  | nil => exact Nat.zero_le _
  | cons r R ih => simp only [List.map_cons, dp.dpL, dp, rm, dp_i]; omega
theorem lf_rm {R : List (List Int)} (h : ∀ r ∈ R, ∀ a ∈ r, a.natAbs < 2 ^ 64) : lf.lfL (R.map rm) = true := by
  induction R with
  | nil => rfl
  | cons r R ih =>
    simp only [List.map_cons, lf.lfL, lf, rm, Bool.and_eq_true]
    exact ⟨lf_i (h r List.mem_cons_self), ih fun r hr => h r (List.mem_cons_of_mem _ hr)⟩
theorem sum_le {f : α → Nat} {c : Nat} : ∀ {us : List α}, (∀ u ∈ us, f u ≤ c) → (us.map f).sum ≤ us.length * c
  | [], _ => by simp
  | u :: us, h => by
    have h1 := h u List.mem_cons_self
    have h2 := sum_le (us := us) fun v hv => h v (List.mem_cons_of_mem _ hv)
    simp only [List.map_cons, List.sum_cons, List.length_cons, Nat.add_mul]
    omega
/-- a house in which each of the folk stands once -/
structure Hou (folk : List Int) (d : Nat) (R : List (List Int)) (D : List Int) : Prop where
  lr : R.length = d + 1
  ld : D.length = d
  perm : R.flatten.Perm folk
  srt : ∀ r ∈ R, r.Pairwise (· < ·)
  bd : ∀ m ∈ D, 0 ≤ m ∧ m < 2 ^ 63
/-- folk, drawn -/
structure Fk (folk : List Int) : Prop where
  srt : folk.Pairwise (· < ·)
  bd : ∀ w ∈ folk, 1 ≤ w ∧ w < 2 ^ 62
  len : folk.length ≤ 60
theorem Fk.nd {folk : List Int} (f : Fk folk) : folk.Nodup := f.srt.imp fun h => by omega
theorem Hou.mem {folk : List Int} {d : Nat} {R : List (List Int)} {D : List Int} (h : Hou folk d R D) {r : List Int} (hr : r ∈ R) {w : Int} (hw : w ∈ r) : w ∈ folk := h.perm.mem_iff.mp (List.mem_flatten_of_mem hr hw)
theorem Hou.rlen {folk : List Int} {d : Nat} {R : List (List Int)} {D : List Int} (h : Hou folk d R D) {r : List Int} (hr : r ∈ R) : r.length ≤ folk.length := by
  rw [← h.perm.length_eq]
  exact (List.sublist_flatten_of_mem hr).length_le
theorem Hou.repr {folk : List Int} {d : Nat} {R : List (List Int)} {D : List Int} (f : Fk folk) (h : Hou folk d R D) (hd : d ≤ 60) : lf (hs R D) = true ∧ bk (hs R D) ≤ 200000 ∧ dp (hs R D) ≤ 20 := by
  refine ⟨?_, ?_, ?_⟩
  · have e1 := lf_rm (R := R) fun r hr a ha => by have := f.bd a (h.mem hr ha); omega
    have e2 := lf_i (ns := D) fun a ha => by have := h.bd a ha; omega
    simp only [hs, lf, lf.lfL, e1, e2, Bool.and_self]
  · simp only [hs, bk, bk.bkL, bk_rm, bk_i]
    have := sum_le (f := fun r : List Int => r.length + 1) (c := 61) (us := R) fun r hr => by have := h.rlen hr; have := f.len; omega
    have h1 := h.lr
    have h2 := h.ld
    have : R.length * 61 ≤ 61 * 61 := Nat.mul_le_mul (by omega) (by omega)
    omega
  · simp only [hs, dp, dp.dpL, dp_i]
    have := dp_rm R
    omega
theorem Hou.pl {folk : List Int} {d : Nat} {R : List (List Int)} {D : List Int} (f : Fk folk) (h : Hou folk d R D) (hd : d ≤ 60) {n : Nat} : Y.pl (n + 4) (hs R D) = true :=
  pl_hs (fun r hr => by have := h.rlen hr; have := f.len; omega) (by have := h.lr; omega) (by have := h.ld; omega)
theorem rep_i (k : Nat) (a : Int) : (List.replicate k [Dt.i a]).flatten = (List.replicate k a).map .i := by
  induction k with
  | zero => rfl
  | succ k ih => simp [List.replicate_succ, ih]
theorem rep_t (k : Nat) : (List.replicate k [Dt.t []]).flatten = (List.replicate k []).map rm := by
  induction k with
  | zero => rfl
  | succ k ih => simp only [List.replicate_succ, List.flatten_cons, List.map_cons, ih]; rfl
/-- the goings by the k-th door (from 0) -/
def stepAt (R : List (List Int)) (D : List Int) (k : Nat) : List (Int × Int) :=
  ((R.getD k []).filter fun w => decide (D.getD k 0 < w)).map (fun w => (w, (k : Int) + 1)) ++ ((R.getD (k + 1) []).filter fun w => decide (w < D.getD k 0)).map fun w => (w, (k : Int) + 1)
def stepsTo (R : List (List Int)) (D : List Int) (k : Nat) : List (Int × Int) := (List.range k).flatMap (stepAt R D)
/-- all goings that are let, rising -/
def steps (R : List (List Int)) (D : List Int) : List (Int × Int) := psrt (stepsTo R D D.length)
theorem stepsTo_s (R : List (List Int)) (D : List Int) (k : Nat) : stepsTo R D (k + 1) = stepsTo R D k ++ stepAt R D k := by simp [stepsTo, List.range_succ]
theorem mem_steps {R : List (List Int)} {D : List Int} {p : Int × Int} : p ∈ steps R D ↔ ∃ k : Nat, k < D.length ∧ p.2 = (k : Int) + 1 ∧ ((p.1 ∈ R.getD k [] ∧ D.getD k 0 < p.1) ∨ (p.1 ∈ R.getD (k + 1) [] ∧ p.1 < D.getD k 0)) := by
  unfold steps
  rw [(psrt_perm _).mem_iff]
  simp only [stepsTo, List.mem_flatMap, List.mem_range, stepAt, List.mem_append, List.mem_map, List.mem_filter, decide_eq_true_eq]
  constructor
  · rintro ⟨k, hk, ⟨w, ⟨h1, h2⟩, rfl⟩ | ⟨w, ⟨h1, h2⟩, rfl⟩⟩
    · exact ⟨k, hk, rfl, .inl ⟨h1, h2⟩⟩
    · exact ⟨k, hk, rfl, .inr ⟨h1, h2⟩⟩
  · rintro ⟨k, hk, h1, ⟨h2, h3⟩ | ⟨h2, h3⟩⟩
    · exact ⟨k, hk, .inl ⟨p.1, ⟨h2, h3⟩, by rw [← h1]⟩⟩
    · exact ⟨k, hk, .inr ⟨p.1, ⟨h2, h3⟩, by rw [← h1]⟩⟩
/-- the house behind a going by the k-th door (from 0) -/
def behR (R : List (List Int)) (w : Int) (k : Nat) : List (List Int) :=
  let b := if w ∈ R.getD k [] then k else k + 1
  let e := if w ∈ R.getD k [] then k + 1 else k
  (R.set b ((R.getD b []).filter fun v => decide (v ≠ w))).set e (isrt ((R.getD e []) ++ [w]))
theorem len_steps {folk : List Int} {d : Nat} {R : List (List Int)} {D : List Int} (f : Fk folk) (h : Hou folk d R D) (hd : d ≤ 60) : (steps R D).length ≤ 7200 := by
  unfold steps
  rw [psrt_len]
  have : ∀ k, (stepAt R D k).length ≤ 120 := fun k => by
    have rl : ∀ j, (R.getD j []).length ≤ 60 := fun j => by
      rw [List.getD_eq_getElem?_getD]
      cases e : R[j]? with
      | none => simp
      | some r => have := h.rlen (List.mem_of_getElem? e); have := f.len; simp; omega
    simp only [stepAt, List.length_append, List.length_map]
    have h1 := List.length_filter_le (fun w => decide (D.getD k 0 < w)) (R.getD k [])
    have h2 := List.length_filter_le (fun w => decide (w < D.getD k 0)) (R.getD (k + 1) [])
    have := rl k
    have := rl (k + 1)
    omega
  have e : ∀ k, (stepsTo R D k).length ≤ k * 120 := by
    intro k
    induction k with
    | zero => simp [stepsTo]
    | succ k ih => rw [stepsTo_s, List.length_append]; have := this k; omega
  have := e D.length
  have := h.ld
  omega
theorem setp {x y : List Int} : ∀ {R : List (List Int)} {i : Nat}, R[i]? = some x → (x ++ (R.set i y).flatten).Perm (y ++ R.flatten)
  | [], _, h => by simp at h
  | r :: R, 0, h => by
    simp at h; subst h
    simp only [List.set_cons_zero, List.flatten_cons]
    rw [← List.append_assoc, ← List.append_assoc]
    exact List.perm_append_comm.append_right _
  | r :: R, i + 1, h => by
    have ih := setp (y := y) (R := R) (i := i) (by simpa using h)
    simp only [List.set_cons_succ, List.flatten_cons]
    calc (x ++ (r ++ (R.set i y).flatten)).Perm (r ++ (x ++ (R.set i y).flatten)) := by
            rw [← List.append_assoc, ← List.append_assoc]; exact List.perm_append_comm.append_right _
      _ |>.Perm (r ++ (y ++ R.flatten)) := ih.append_left r
      _ |>.Perm (y ++ (r ++ R.flatten)) := by
            rw [← List.append_assoc, ← List.append_assoc]; exact List.perm_append_comm.append_right _
theorem Hou.move {folk : List Int} {d : Nat} {R : List (List Int)} {D : List Int} (f : Fk folk) (h : Hou folk d R D) {w : Int} {b e : Nat} {rb re : List Int} (hbe : b ≠ e) (hb : R[b]? = some rb) (he : R[e]? = some re) (hw : w ∈ rb) {D' : List Int} (hl : D'.length = d) (hd : ∀ m ∈ D', 0 ≤ m ∧ m < 2 ^ 63) : Hou folk d ((R.set b (rb.filter fun v => decide (v ≠ w))).set e (isrt (re ++ [w]))) D' := by
  have hp1 := setp (y := rb.filter fun v => decide (v ≠ w)) hb
  have he2 : (R.set b (rb.filter fun v => decide (v ≠ w)))[e]? = some re := by rw [List.getElem?_set_ne hbe]; exact he
  have hp2 := setp (y := isrt (re ++ [w])) he2
  generalize hS : R.set b (rb.filter fun v => decide (v ≠ w)) = S at hp1 hp2 ⊢
  have hp3 : (re ++ (S.set e (isrt (re ++ [w]))).flatten).Perm (re ++ ([w] ++ S.flatten)) := by
    refine hp2.trans ?_
    rw [← List.append_assoc]
    exact (isrt_perm _).append_right _
  have hp4 := (List.perm_append_left_iff re).mp hp3
  have ndb : rb.Nodup := (h.srt rb (List.mem_of_getElem? hb)).imp fun h => by omega
  have ef : rb.filter (fun v => decide (v ≠ w)) = rb.erase w := by
    rw [List.Nodup.erase_eq_filter ndb]
    refine List.filter_congr fun v _ => ?_
    by_cases hv : v = w <;> simp [hv]
  have hp5 : rb.Perm (w :: rb.filter fun v => decide (v ≠ w)) := by rw [ef]; exact List.perm_cons_erase hw
  have hp6 : ((rb.filter fun v => decide (v ≠ w)) ++ ([w] ++ S.flatten)).Perm ((rb.filter fun v => decide (v ≠ w)) ++ R.flatten) := by
    refine List.Perm.trans ?_ hp1
    refine List.Perm.trans ?_ (hp5.append_right _).symm
    rw [← List.append_assoc, List.cons_append, ← List.singleton_append (l := _ ++ _), ← List.append_assoc]
    exact List.perm_append_comm.append_right _
  have hp7 := (List.perm_append_left_iff _).mp hp6
  have hp := (hp4.trans hp7).trans h.perm
  have nd := hp.nodup_iff.mpr f.nd
  refine ⟨by rw [List.length_set, ← hS, List.length_set]; exact h.lr, hl, hp, fun r hr => ?_, hd⟩
  rcases List.mem_or_eq_of_mem_set hr with hr2 | rfl
  · rw [← hS] at hr2
    rcases List.mem_or_eq_of_mem_set hr2 with hr3 | rfl
    · exact h.srt r hr3
    · exact (h.srt rb (List.mem_of_getElem? hb)).filter _
  · have := (isrt_le (re ++ [w])).and (nd.sublist (List.sublist_flatten_of_mem hr))
    exact this.imp fun h => by omega
theorem Hou.beh {folk : List Int} {d : Nat} {R : List (List Int)} {D : List Int} (f : Fk folk) (h : Hou folk d R D) {w : Int} {k : Nat} (hk : k < d) (hw : w ∈ R.getD k [] ∨ w ∈ R.getD (k + 1) []) : Hou folk d (behR R w k) (D.set k w) := by
  have hlr := h.lr
  have hld := h.ld
  have e0 : R[k]? = some (R.getD k []) := by rw [List.getD_eq_getElem?_getD, List.getElem?_eq_getElem (by omega)]; rfl
  have e1 : R[k + 1]? = some (R.getD (k + 1) []) := by rw [List.getD_eq_getElem?_getD, List.getElem?_eq_getElem (by omega)]; rfl
  have hwf : w ∈ folk := by
    rcases hw with hw | hw
    · exact h.mem (List.mem_of_getElem? e0) hw
    · exact h.mem (List.mem_of_getElem? e1) hw
  have hD : ∀ m ∈ D.set k w, 0 ≤ m ∧ m < 2 ^ 63 := by
    intro m hm
    rcases List.mem_or_eq_of_mem_set hm with hm | rfl
    · exact h.bd m hm
    · have := f.bd m hwf; omega
  unfold behR
  by_cases c : w ∈ R.getD k []
  · simp only [if_pos c]
    exact h.move f (by omega) e0 e1 c (by rw [List.length_set]; exact hld) hD
  · simp only [if_neg c]
    exact h.move f (by omega) e1 e0 (hw.resolve_left c) (by rw [List.length_set]; exact hld) hD
theorem lc_mM' {own : Bool} {vs : List Nat} {t : Vl → Ev → Option Ev} {c : Ev → Ou Bool} {fe : Ev → Ou Vl} {f : α → Dt} (G : α → Dt) : ∀ (us : List α) (acc : List Dt), (∀ u ∈ us, wK (t (f u, .c) r) fun r1 => wT c r1 fun b r2 => b = true ∧ wE fe r2 fun y r3 => y.1 = G u ∧ (own = true → zfl y = true) ∧ wipeE r3 vs = r) → lcL vs t c fe own (us.map f) r acc = .ok (acc ++ us.map G) r
  | [], acc, _ => by simp [lcL]
  | x :: xs, acc, h => by
    have h1 := h x List.mem_cons_self
    unfold wK at h1
    simp only [List.map_cons, lcL]
    cases ht : t (f x, .c) r with
    | none => rw [ht] at h1; exact h1.elim
    | some r1 =>
      rw [ht] at h1
      simp only at h1 ⊢
      unfold wT at h1
      cases hc : c r1 with
      | ok b r2 =>
        rw [hc] at h1
        obtain ⟨rfl, h1⟩ := h1
        simp only
        unfold wE at h1
        cases hf : fe r2 with
        | ok y r3 =>
          rw [hf] at h1
          obtain ⟨y, my⟩ := y
          obtain ⟨e1, e2, e3⟩ := h1
          simp only at e1 ⊢
          subst e1
          rw [e3, if_neg (by cases own <;> simp_all), lc_mM' G xs _ fun z hz => h z (List.mem_cons_of_mem _ hz)]
          simp
        | ex _ _ _ => rw [hf] at h1; exact h1.elim
        | no => rw [hf] at h1; exact h1.elim
      | ex _ _ _ => rw [hc] at h1; exact h1.elim
      | no => rw [hc] at h1; exact h1.elim
theorem lc_mM {own : Bool} {vs : List Nat} {t : Vl → Ev → Option Ev} {c : Ev → Ou Bool} {fe : Ev → Ou Vl} {f : α → Dt} (G : α → Dt) {us : List α} (h : ∀ u ∈ us, wK (t (f u, .c) r) fun r1 => wT c r1 fun b r2 => b = true ∧ wE fe r2 fun y r3 => y.1 = G u ∧ (own = true → zfl y = true) ∧ wipeE r3 vs = r) : lcL vs t c fe own (us.map f) r [] = .ok (us.map G) r := by
  simpa using lc_mM' G us [] h
theorem lc_fM' {own : Bool} {vs : List Nat} {t : Vl → Ev → Option Ev} {c : Ev → Ou Bool} {fe : Ev → Ou Vl} {f : α → Dt} (C : α → Bool) (G : α → Dt) : ∀ (us : List α) (acc : List Dt), (∀ x ∈ us, wK (t (f x, .c) r) fun r1 => wT c r1 fun b r2 => b = C x ∧ (b = false → wipeE r2 vs = r) ∧ (b = true → wE fe r2 fun y r3 => y.1 = G x ∧ (own = true → zfl y = true) ∧ wipeE r3 vs = r)) → lcL vs t c fe own (us.map f) r acc = .ok (acc ++ (us.filter C).map G) r
  | [], acc, _ => by simp [lcL]
  | x :: xs, acc, h => by
    have h1 := h x List.mem_cons_self
    unfold wK at h1
    simp only [List.map_cons, lcL]
    cases ht : t (f x, .c) r with
    | none => rw [ht] at h1; exact h1.elim
    | some r1 =>
      rw [ht] at h1
      simp only at h1 ⊢
      unfold wT at h1
      cases hc : c r1 with
      | ok b r2 =>
        rw [hc] at h1
        obtain ⟨h2, h3, h4⟩ := h1
        cases b with
        | false =>
          simp only
          rw [h3 rfl, lc_fM' C G xs acc fun z hz => h z (List.mem_cons_of_mem _ hz)]
          simp [← h2]
        | true =>
          simp only
          have h4 := h4 rfl
          unfold wE at h4
          cases hf : fe r2 with
          | ok y r3 =>
            rw [hf] at h4
            obtain ⟨y, my⟩ := y
            obtain ⟨e1, e2, e3⟩ := h4
            simp only at e1 ⊢
            subst e1
            rw [e3, if_neg (by cases own <;> simp_all), lc_fM' C G xs _ fun z hz => h z (List.mem_cons_of_mem _ hz)]
            simp [← h2]
          | ex _ _ _ => rw [hf] at h4; exact h4.elim
          | no => rw [hf] at h4; exact h4.elim
      | ex _ _ _ => rw [hc] at h1; exact h1.elim
      | no => rw [hc] at h1; exact h1.elim
theorem lc_fM {own : Bool} {vs : List Nat} {t : Vl → Ev → Option Ev} {c : Ev → Ou Bool} {fe : Ev → Ou Vl} {f : α → Dt} (C : α → Bool) (G : α → Dt) {us : List α} (h : ∀ x ∈ us, wK (t (f x, .c) r) fun r1 => wT c r1 fun b r2 => b = C x ∧ (b = false → wipeE r2 vs = r) ∧ (b = true → wE fe r2 fun y r3 => y.1 = G x ∧ (own = true → zfl y = true) ∧ wipeE r3 vs = r)) : lcL vs t c fe own (us.map f) r [] = .ok ((us.filter C).map G) r := by
  simpa using lc_fM' C G us [] h
/-- folk in rooms -/
structure Pt (c : Nat) (ws : List Int) (R : List (List Int)) : Prop where
  lr : R.length = c
  perm : R.flatten.Perm ws
  srt : ∀ r ∈ R, r.Pairwise (· < ·)
theorem Pt.nil (c : Nat) : Pt c [] (List.replicate c []) := ⟨by simp, by simp, fun r hr => by rw [(List.mem_replicate.mp hr).2]; exact .nil⟩
theorem Pt.next {folk : List Int} {c k j : Nat} {R : List (List Int)} {w : Int} {r : List Int} (f : Fk folk) (h : Pt c (folk.take k) R) (hw : folk[k]? = some w) (hr : R[j]? = some r) : Pt c (folk.take (k + 1)) (R.set j (r ++ [w])) := by
  have hk := (List.getElem?_eq_some_iff.mp hw).1
  have ew : folk[k] = w := (List.getElem?_eq_some_iff.mp hw).2
  have et : folk.take (k + 1) = folk.take k ++ [w] := by rw [List.take_succ, hw]; rfl
  refine ⟨by rw [List.length_set]; exact h.lr, ?_, fun r' hr' => ?_⟩
  · have hp := setp (y := r ++ [w]) hr
    rw [List.append_assoc] at hp
    have hp2 := (List.perm_append_left_iff r).mp hp
    rw [et]
    exact hp2.trans ((List.perm_append_comm).trans (h.perm.append_right _))
  · rcases List.mem_or_eq_of_mem_set hr' with hr' | rfl
    · exact h.srt r' hr'
    · refine List.pairwise_append.mpr ⟨h.srt r (List.mem_of_getElem? hr), by simp, fun a ha b hb => ?_⟩
      rw [List.mem_singleton.mp hb]
      have ha2 : a ∈ folk.take k := h.perm.mem_iff.mp (List.mem_flatten_of_mem (List.mem_of_getElem? hr) ha)
      have hs := f.srt
      rw [← List.take_append_drop (k + 1) folk, et, List.append_assoc] at hs
      exact (List.pairwise_append.mp hs).2.2 a ha2 w (by simp)
theorem Pt.rlen {c : Nat} {ws : List Int} {R : List (List Int)} (h : Pt c ws R) {r : List Int} (hr : r ∈ R) : r.length ≤ ws.length := by
  rw [← h.perm.length_eq]
  exact (List.sublist_flatten_of_mem hr).length_le
theorem Pt.hou {folk : List Int} {d : Nat} {R : List (List Int)} {D : List Int} (h : Pt (d + 1) folk R) (hl : D.length = d) (hd : ∀ m ∈ D, 0 ≤ m ∧ m < 2 ^ 63) : Hou folk d R D := ⟨h.lr, hl, h.perm, h.srt, hd⟩
theorem set_lm {R : List (List Int)} {j : Nat} {y : List Int} : (R.map lm).set j (.l (y.map .i)) = (R.set j y).map lm := by simp [List.map_set, lm]
/-- what is seen from a room, from its two doors' memories -/
def seenL (b e : Int) (r : List Int) : List Int := r.filter fun w => decide (w ≤ b ∨ e ≤ w)
/-- the rooms in which nothing is seen -/
def unwellL (R : List (List Int)) (D : List Int) : List Int := ((List.range (D.length - 1)).filter fun k => decide (D.getD (k + 1) 0 < D.getD k 0) && decide (seenL (D.getD (k + 1) 0) (D.getD k 0) (R.getD (k + 1) []) = [])).map fun k : Nat => (k : Int) + 1
theorem mem_unwellL {R : List (List Int)} {D : List Int} {z : Int} : z ∈ unwellL R D ↔ ∃ j : Nat, j + 1 < D.length ∧ z = (j : Int) + 1 ∧ D.getD (j + 1) 0 < D.getD j 0 ∧ ∀ v ∈ R.getD (j + 1) [], D.getD (j + 1) 0 < v ∧ v < D.getD j 0 := by
  simp only [unwellL, List.mem_map, List.mem_filter, List.mem_range, Bool.and_eq_true, decide_eq_true_eq, seenL, List.filter_eq_nil_iff]
  constructor
  · rintro ⟨j, ⟨h1, h2, h3⟩, rfl⟩
    exact ⟨j, by omega, rfl, h2, fun v hv => by have := h3 v hv; omega⟩
  · rintro ⟨j, h1, rfl, h2, h3⟩
    exact ⟨j, ⟨by omega, h2, fun v hv => by have := h3 v hv; omega⟩, rfl⟩
theorem set_getD {D : List α} {k j : Nat} {w z : α} (h : k < D.length) : (D.set k w).getD j z = if j = k then w else D.getD j z := by
  simp only [List.getD_eq_getElem?_getD, List.getElem?_set]
  by_cases c : k = j
  · subst c; simp [h]
  · simp [c, show ¬ j = k from fun e => c e.symm]
theorem beh_other {R : List (List Int)} {w : Int} {k i : Nat} (hk : k + 1 < R.length) (h1 : i ≠ k) (h2 : i ≠ k + 1) : (behR R w k).getD i [] = R.getD i [] := by
  unfold behR
  by_cases c : w ∈ R.getD k []
  · simp only [if_pos c]
    rw [set_getD (by rw [List.length_set]; omega), set_getD (by omega), if_neg h2, if_neg h1]
  · simp only [if_neg c]
    rw [set_getD (by rw [List.length_set]; omega), set_getD (by omega), if_neg h1, if_neg h2]
theorem beh_keep {R : List (List Int)} {w v : Int} {k i : Nat} (hk : k + 1 < R.length) (hv : v ∈ R.getD i []) (hw : v ≠ w) : v ∈ (behR R w k).getD i [] := by
  by_cases h1 : i = k
  · unfold behR
    by_cases c : w ∈ R.getD k []
    · simp only [if_pos c]
      rw [set_getD (by rw [List.length_set]; omega), set_getD (by omega), if_neg (by omega), if_pos h1]
      subst h1; exact List.mem_filter.mpr ⟨hv, by simpa using hw⟩
    · simp only [if_neg c]
      rw [set_getD (by rw [List.length_set]; omega), if_pos h1, isrt_mem]
      subst h1; exact List.mem_append_left _ hv
  · by_cases h2 : i = k + 1
    · unfold behR
      by_cases c : w ∈ R.getD k []
      · simp only [if_pos c]
        rw [set_getD (by rw [List.length_set]; omega), if_pos h2, isrt_mem]
        subst h2; exact List.mem_append_left _ hv
      · simp only [if_neg c]
        rw [set_getD (by rw [List.length_set]; omega), set_getD (by omega), if_neg (by omega), if_pos h2]
        subst h2; exact List.mem_filter.mpr ⟨hv, by simpa using hw⟩
    · rw [beh_other hk h1 h2]; exact hv
theorem beh_forth {R : List (List Int)} {w : Int} {k : Nat} (hk : k + 1 < R.length) (c : w ∈ R.getD k []) : w ∈ (behR R w k).getD (k + 1) [] := by
  unfold behR
  simp only [if_pos c]
  rw [set_getD (by rw [List.length_set]; omega), if_pos rfl, isrt_mem]
  simp
theorem beh_back {R : List (List Int)} {w : Int} {k : Nat} (hk : k + 1 < R.length) (c : ¬ w ∈ R.getD k []) : w ∈ (behR R w k).getD k [] := by
  unfold behR
  simp only [if_neg c]
  rw [set_getD (by rw [List.length_set]; omega), if_pos rfl, isrt_mem]
  simp
/-- nobody stands in two rooms -/
theorem Hou.one {folk : List Int} {d : Nat} {R : List (List Int)} {D : List Int} (f : Fk folk) (h : Hou folk d R D) {w : Int} : ∀ {i j : Nat}, i < j → w ∈ R.getD i [] → w ∈ R.getD j [] → False := by
  have nd : R.flatten.Nodup := h.perm.nodup_iff.mpr f.nd
  have pw := (List.pairwise_flatten.mp nd).2
  intro i j hij h1 h2
  have li : i < R.length := by
    refine Nat.lt_of_not_le fun c => ?_
    rw [List.getD_eq_getElem?_getD, List.getElem?_eq_none c] at h1; simp at h1
  have lj : j < R.length := by
    refine Nat.lt_of_not_le fun c => ?_
    rw [List.getD_eq_getElem?_getD, List.getElem?_eq_none c] at h2; simp at h2
  have e1 : R.getD i [] = R[i] := by rw [List.getD_eq_getElem?_getD, List.getElem?_eq_getElem li]; rfl
  have e2 : R.getD j [] = R[j] := by rw [List.getD_eq_getElem?_getD, List.getElem?_eq_getElem lj]; rfl
  rw [e1] at h1
  rw [e2] at h2
  exact List.pairwise_iff_getElem.mp pw i j li lj hij w h1 w h2 rfl
/-- what it means that a going is let -/
def Let (R : List (List Int)) (D : List Int) (w : Int) (k : Nat) : Prop := (w ∈ R.getD k [] ∧ D.getD k 0 < w) ∨ (¬ w ∈ R.getD k [] ∧ w ∈ R.getD (k + 1) [] ∧ w < D.getD k 0)
theorem steps_let {folk : List Int} {d : Nat} {R : List (List Int)} {D : List Int} (f : Fk folk) (h : Hou folk d R D) {p : Int × Int} (hp : p ∈ steps R D) : ∃ k : Nat, k < d ∧ p = (p.1, (k : Int) + 1) ∧ Let R D p.1 k := by
  obtain ⟨k, hk, e, h1⟩ := mem_steps.mp hp
  refine ⟨k, by rw [← h.ld]; exact hk, by rw [← e], ?_⟩
  rcases h1 with h1 | h1
  · exact .inl h1
  · exact .inr ⟨fun c => h.one f (Nat.lt_succ_self k) c h1.1, h1.1, h1.2⟩
theorem Let.hou {folk : List Int} {d : Nat} {R : List (List Int)} {D : List Int} (f : Fk folk) (h : Hou folk d R D) {w : Int} {k : Nat} (hk : k < d) (l : Let R D w k) : Hou folk d (behR R w k) (D.set k w) := by
  refine h.beh f hk ?_
  rcases l with l | l
  · exact .inl l.1
  · exact .inr l.2.1
/-- a going that is let leaves no room unwell that was well -/
theorem unwell_step {folk : List Int} {d : Nat} {R : List (List Int)} {D : List Int} (f : Fk folk) (h : Hou folk d R D) {w : Int} {k : Nat} (hk : k < d) (l : Let R D w k) {z : Int} (hz : z ∈ unwellL (behR R w k) (D.set k w)) : z ∈ unwellL R D := by
  have hlr := h.lr
  have hld := h.ld
  obtain ⟨j, h1, rfl, h2, h3⟩ := mem_unwellL.mp hz
  rw [List.length_set] at h1
  rw [set_getD (by omega), set_getD (by omega)] at h2 h3
  refine mem_unwellL.mpr ⟨j, h1, rfl, ?_⟩
  have hR : k + 1 < R.length := by omega
  rcases l with ⟨l1, l2⟩ | ⟨l1, l2, l3⟩
  · by_cases c1 : j = k
    · have := h3 w (by rw [c1]; exact beh_forth hR l1)
      rw [if_pos c1] at this
      omega
    · by_cases c2 : j + 1 = k
      · rw [if_pos c2, if_neg c1] at h2 h3
        subst c2
        refine ⟨by omega, fun v hv => ?_⟩
        by_cases cv : v = w
        · omega
        · have := h3 v (beh_keep hR hv cv); omega
      · rw [if_neg c2, if_neg c1, beh_other hR c2 (by omega)] at h3
        rw [if_neg c2, if_neg c1] at h2
        exact ⟨h2, h3⟩
  · by_cases c1 : j + 1 = k
    · have := h3 w (by rw [c1]; exact beh_back hR l1)
      rw [if_pos c1] at this
      omega
    · by_cases c2 : j = k
      · rw [if_neg c1, if_pos c2] at h2 h3
        subst c2
        refine ⟨by omega, fun v hv => ?_⟩
        by_cases cv : v = w
        · omega
        · have := h3 v (beh_keep hR hv cv); omega
      · rw [if_neg c1, if_neg c2, beh_other hR c1 (by omega)] at h3
        rw [if_neg c1, if_neg c2] at h2
        exact ⟨h2, h3⟩
theorem set_sub {x y : List Int} : ∀ {R : List (List Int)} {i : Nat}, R[i]? = some x → y.Sublist x → (R.set i y).flatten.Sublist R.flatten
  | [], _, h, _ => by simp at h
  | r :: R, 0, h, s => by
    simp at h; subst h
    simp only [List.set_cons_zero, List.flatten_cons]
    exact s.append (List.Sublist.refl _)
  | r :: R, i + 1, h, s => by
    simp only [List.set_cons_succ, List.flatten_cons]
    exact (List.Sublist.refl r).append (set_sub (R := R) (i := i) (by simpa using h) s)
/-- the house with a stranger in the first room and without the first of the last -/
def endsR (R : List (List Int)) (d : Nat) (s : Int) : List (List Int) := (R.set 0 (isrt (R.getD 0 [] ++ [s]))).set d ((R.getD d []).drop 1)
theorem ends_hou {folk : List Int} {d : Nat} {R : List (List Int)} {D : List Int} (f : Fk folk) (h : Hou folk d R D) (hl : folk.length ≤ 59) (hd : 1 ≤ d) {s : Int} (hs : ¬ s ∈ folk) (h0 : 1 ≤ s) (h1 : s < 2 ^ 62) : ∃ folk', Fk folk' ∧ Hou folk' d (endsR R d s) D := by
  have hlr := h.lr
  have e0 : R[0]? = some (R.getD 0 []) := by rw [List.getD_eq_getElem?_getD, List.getElem?_eq_getElem (by omega)]; rfl
  have e1 : R[d]? = some (R.getD d []) := by rw [List.getD_eq_getElem?_getD, List.getElem?_eq_getElem (by omega)]; rfl
  have p1 := setp (y := isrt (R.getD 0 [] ++ [s])) e0
  have p2 : (R.getD 0 [] ++ (R.set 0 (isrt (R.getD 0 [] ++ [s]))).flatten).Perm (R.getD 0 [] ++ ([s] ++ R.flatten)) := by
    refine p1.trans ?_
    rw [← List.append_assoc]
    exact (isrt_perm _).append_right _
  have p3 := ((List.perm_append_left_iff _).mp p2).trans (h.perm.append_left [s])
  have nd1 : ([s] ++ folk).Nodup := by
    rw [List.singleton_append, List.nodup_cons]
    exact ⟨hs, f.nd⟩
  have nd2 := p3.nodup_iff.mpr nd1
  have e2 : (R.set 0 (isrt (R.getD 0 [] ++ [s])))[d]? = some (R.getD d []) := by rw [List.getElem?_set_ne (by omega)]; exact e1
  have sb : (endsR R d s).flatten.Sublist (R.set 0 (isrt (R.getD 0 [] ++ [s]))).flatten := set_sub e2 (List.drop_sublist 1 _)
  have nd3 := nd2.sublist sb
  have me : ∀ w ∈ (endsR R d s).flatten, w = s ∨ w ∈ folk := fun w hw => by
    have := p3.mem_iff.mp (sb.subset hw)
    simpa using this
  have len : (endsR R d s).flatten.length ≤ 60 := by
    have := sb.length_le
    have := p3.length_eq
    rw [List.length_append, List.length_singleton] at this
    omega
  refine ⟨isrt (endsR R d s).flatten, ⟨?_, fun w hw => ?_, by rw [isrt_len]; exact len⟩, ⟨by simp [endsR, hlr], h.ld, (isrt_perm _).symm, fun r hr => ?_, h.bd⟩⟩
  · have := (isrt_le (endsR R d s).flatten).and ((isrt_perm _).nodup_iff.mpr nd3)
    exact this.imp fun h => by omega
  · rcases me w (isrt_mem.mp hw) with rfl | hw
    · exact ⟨h0, h1⟩
    · exact f.bd w hw
  · rcases List.mem_or_eq_of_mem_set hr with hr2 | rfl
    · rcases List.mem_or_eq_of_mem_set hr2 with hr3 | rfl
      · exact h.srt r hr3
      · have := (isrt_le (R.getD 0 [] ++ [s])).and (nd2.sublist (List.sublist_flatten_of_mem hr2))
        exact this.imp fun h => by omega
    · exact (h.srt _ (List.mem_of_getElem? e1)).sublist (List.drop_sublist 1 _)
theorem ends_unwell {d : Nat} {R : List (List Int)} {D : List Int} (hlr : R.length = d + 1) (hld : D.length = d) {s : Int} : unwellL (endsR R d s) D = unwellL R D := by
  unfold unwellL
  congr 1
  refine List.filter_congr fun k hk => ?_
  have := List.mem_range.mp hk
  rw [show (endsR R d s).getD (k + 1) [] = R.getD (k + 1) [] by
    unfold endsR
    rw [set_getD (by rw [List.length_set]; omega), set_getD (by omega), if_neg (by omega), if_neg (by omega)]]
/-- a house of zeros is well -/
theorem zero_well {R : List (List Int)} {d : Nat} : unwellL R (List.replicate d 0) = [] := by
  rw [List.eq_nil_iff_forall_not_mem]
  intro z hz
  obtain ⟨j, h1, rfl, h2, _⟩ := mem_unwellL.mp hz
  simp only [List.length_replicate] at h1
  have e : ∀ i, i < d → (List.replicate d (0 : Int)).getD i 0 = 0 := fun i hi => by rw [List.getD_eq_getElem?_getD, List.getElem?_replicate, if_pos hi]; rfl
  rw [e _ (by omega), e _ (by omega)] at h2
  omega
theorem ixN_last {n : Nat} : ixN (n + 1) (-1) = some n := by
  unfold ixN
  rw [if_neg (by decide), if_pos (by omega)]
  rw [show (-1 + ((n + 1 : Nat) : Int)).toNat = n by omega]
theorem wAt_ML {f : α → Dt} {us : List α} {n : Nat} {Q : Dt → Prop} (h : us.length = n + 1) (q : ∀ x, us[n]? = some x → Q (f x)) : wAt (us.map f) (-1) Q := by
  have hn : n < us.length := by omega
  refine ⟨f us[n], ?_, q _ (by simp [hn])⟩
  unfold atI
  rw [List.length_map, h, ixN_last]
  simp [hn]
theorem wSt_ML {f : α → Dt} {us : List α} {n : Nat} {y : α} {Q : List Dt → Prop} (h : us.length = n + 1) (q : Q ((us.set n y).map f)) : wSt (us.map f) (-1) (f y) Q := by
  refine ⟨n, by rw [List.length_map, h, ixN_last], ?_⟩
  have e : (us.set n y).map f = (us.map f).set n (f y) := by simp [List.map_set]
  rw [← e]; exact q
@[simp] theorem wE_Lc2 {vs vs1 : List Nat} {s s1 : Ev → Ou (List Dt)} {t t1 : Vl → Ev → Option Ev} {c c1 : Ev → Ou Bool} {f : Ev → Ou Vl} {Q : Vl → Ev → Prop} : wE (mLc2 vs vs1 s t c s1 t1 c1 f) r Q = wI s r fun xs r1 => ∃ ys r2, lc2L vs vs1 t c s1 t1 c1 f xs (wipeE r1 vs) [] = .ok ys r2 ∧ Q (.l ys, .t) (rsE r1 vs r2) := by
  unfold wE wI
  simp only [mLc2]
  cases s r with
  | ok xs r1 =>
    simp only
    cases e : lc2L vs vs1 t c s1 t1 c1 f xs (wipeE r1 vs) [] with
    | ok ys r2 =>
      simp only [eq_iff_iff]
      exact ⟨fun z => ⟨ys, r2, rfl, z⟩, fun ⟨ys', r', h1, h2⟩ => by cases h1; exact h2⟩
    | ex _ _ _ => simp
    | no => simp
  | ex _ _ _ => rfl
  | no => rfl
theorem lcL_acc {vs : List Nat} {t : Vl → Ev → Option Ev} {c : Ev → Ou Bool} {f : Ev → Ou Vl} {own : Bool} : ∀ (xs : List Dt) (r : Ev) (acc0 acc ys : List Dt) (r' : Ev), lcL vs t c f own xs r acc = .ok ys r' → lcL vs t c f own xs r (acc0 ++ acc) = .ok (acc0 ++ ys) r'
  | [], r, acc0, acc, ys, r', h => by
    simp only [lcL, Ou.ok.injEq] at h ⊢
    exact ⟨by rw [h.1], h.2⟩
  | x :: xs, r, acc0, acc, ys, r', h => by
    simp only [lcL] at h ⊢
    cases ht : t (x, .c) r with
    | none => rw [ht] at h; cases h
    | some r1 =>
      rw [ht] at h
      simp only at h ⊢
      cases hc : c r1 with
      | no => rw [hc] at h; cases h
      | ex _ _ _ => rw [hc] at h; cases h
      | ok b r2 =>
        rw [hc] at h
        cases b with
        | false =>
          simp only at h ⊢
          exact lcL_acc xs _ acc0 acc ys r' h
        | true =>
          simp only at h ⊢
          cases hf : f r2 with
          | no => rw [hf] at h; cases h
          | ex _ _ _ => rw [hf] at h; cases h
          | ok y r3 =>
            rw [hf] at h
            obtain ⟨y, m⟩ := y
            simp only at h ⊢
            by_cases e4 : (own && !zfl (y, m)) = true
            · rw [if_pos e4] at h; cases h
            · rw [if_neg e4] at h ⊢
              rw [List.append_assoc]
              exact lcL_acc xs _ acc0 _ ys r' h
/-- two generators, turn by turn; the state stays; what a turn of the outer one gives -/
theorem lc2_go {vs vs1 : List Nat} {s1 : Ev → Ou (List Dt)} {t t1 : Vl → Ev → Option Ev} {c c1 : Ev → Ou Bool} {fe : Ev → Ou Vl} {f : α → Dt} (G : α → List Dt) : ∀ (us : List α) (acc : List Dt), acc.length + (us.flatMap G).length ≤ LIM →
    (∀ u ∈ us, wK (t (f u, .c) r) fun r1 => wT c r1 fun b r2 => (b = false → G u = [] ∧ wipeE r2 vs = r) ∧ (b = true → wI s1 r2 fun zs r3 => ∃ r4, lcL vs1 t1 c1 fe false zs (wipeE r3 vs1) [] = .ok (G u) r4 ∧ wipeE r4 vs = r ∧ zs.length ≤ 1000)) →
    acc.length + (us.flatMap G).length + 1000 ≤ LIM → lc2L vs vs1 t c s1 t1 c1 fe (us.map f) r acc = .ok (acc ++ us.flatMap G) r
  | [], acc, _, _, _ => by simp [lc2L]
  | u :: us, acc, h0, h, h2 => by
    have h1 := h u List.mem_cons_self
    simp only [List.flatMap_cons, List.length_append] at h0 h2
    unfold wK at h1
    simp only [List.map_cons, lc2L]
    cases ht : t (f u, .c) r with
    | none => rw [ht] at h1; exact h1.elim
    | some r1 =>
      rw [ht] at h1
      simp only at h1 ⊢
      unfold wT at h1
      cases hc : c r1 with
      | ok b r2 =>
        rw [hc] at h1
        cases b with
        | false =>
          obtain ⟨hG, hw⟩ := h1.1 rfl
          simp only
          rw [hw, lc2_go G us acc (by omega) (fun v hv => h v (List.mem_cons_of_mem _ hv)) (by omega)]
          simp [hG]
        | true =>
          have h3 := h1.2 rfl
          simp only
          unfold wI at h3
          cases hs : s1 r2 with
          | ok zs r3 =>
            rw [hs] at h3
            obtain ⟨r4, e4, hw, hl⟩ := h3
            simp only
            rw [if_pos (by omega)]
            have e5 := lcL_acc zs (wipeE r3 vs1) acc [] (G u) r4 e4
            rw [List.append_nil] at e5
            rw [e5]
            simp only
            rw [hw, lc2_go G us (acc ++ G u) (by rw [List.length_append]; omega) (fun v hv => h v (List.mem_cons_of_mem _ hv)) (by rw [List.length_append]; omega)]
            simp
          | ex _ _ _ => rw [hs] at h3; exact h3.elim
          | no => rw [hs] at h3; exact h3.elim
      | ex _ _ _ => rw [hc] at h1; exact h1.elim
      | no => rw [hc] at h1; exact h1.elim
/-- .. the state within bounds -/
theorem lc2_inv {vs vs1 : List Nat} {s1 : Ev → Ou (List Dt)} {t t1 : Vl → Ev → Option Ev} {c c1 : Ev → Ou Bool} {fe : Ev → Ou Vl} {f : α → Dt} (S : Ev → Prop) (G : α → List Dt) : ∀ (us : List α) (r : Ev) (acc : List Dt), S r →
    (∀ u ∈ us, ∀ r, S r → wK (t (f u, .c) r) fun r1 => wT c r1 fun b r2 => (b = false → G u = [] ∧ S (wipeE r2 vs)) ∧ (b = true → wI s1 r2 fun zs r3 => ∃ r4, lcL vs1 t1 c1 fe false zs (wipeE r3 vs1) [] = .ok (G u) r4 ∧ S (wipeE r4 vs) ∧ zs.length ≤ 1000)) →
    acc.length + (us.flatMap G).length + 1000 ≤ LIM → ∃ rf, S rf ∧ lc2L vs vs1 t c s1 t1 c1 fe (us.map f) r acc = .ok (acc ++ us.flatMap G) rf
  | [], r, acc, hs, _, _ => ⟨r, hs, by simp [lc2L]⟩
  | u :: us, r, acc, hS, h, h2 => by
    have h1 := h u List.mem_cons_self r hS
    simp only [List.flatMap_cons, List.length_append] at h2
    unfold wK at h1
    simp only [List.map_cons, lc2L]
    cases ht : t (f u, .c) r with
    | none => rw [ht] at h1; exact h1.elim
    | some r1 =>
      rw [ht] at h1
      simp only at h1 ⊢
      unfold wT at h1
      cases hc : c r1 with
      | ok b r2 =>
        rw [hc] at h1
        cases b with
        | false =>
          obtain ⟨hG, hw⟩ := h1.1 rfl
          simp only
          obtain ⟨rf, e1, e2⟩ := lc2_inv S G us _ acc hw (fun v hv => h v (List.mem_cons_of_mem _ hv)) (by omega)
          exact ⟨rf, e1, by rw [e2]; simp [hG]⟩
        | true =>
          have h3 := h1.2 rfl
          simp only
          unfold wI at h3
          cases hs : s1 r2 with
          | ok zs r3 =>
            rw [hs] at h3
            obtain ⟨r4, e4, hw, hl⟩ := h3
            simp only
            rw [if_pos (by omega)]
            have e5 := lcL_acc zs (wipeE r3 vs1) acc [] (G u) r4 e4
            rw [List.append_nil] at e5
            rw [e5]
            simp only
            obtain ⟨rf, e1, e2⟩ := lc2_inv S G us _ (acc ++ G u) hw (fun v hv => h v (List.mem_cons_of_mem _ hv)) (by rw [List.length_append]; omega)
            exact ⟨rf, e1, by rw [e2]; simp⟩
          | ex _ _ _ => rw [hs] at h3; exact h3.elim
          | no => rw [hs] at h3; exact h3.elim
      | ex _ _ _ => rw [hc] at h1; exact h1.elim
      | no => rw [hc] at h1; exact h1.elim
end
end Y
/-! W, part F: goings counted by twos: whoever goes, it ends. -/
namespace Y
open PySem L2 PyProof.Rows
/-- by twos: who of a rising list has p -/
def hv (p : Int → Bool) : List Int → Int
  | [] => 0
  | v :: vs => (if p v then 1 else 0) + 2 * hv p vs
/-- two to the power of how many of a rising list are below -/
def hx (m : Int) : List Int → Int
  | [] => 1
  | v :: vs => if m ≤ v then 1 else 2 * hx m vs
theorem hv_0 (p : Int → Bool) : ∀ L, 0 ≤ hv p L
  | [] => by simp [hv]
  | v :: vs => by have := hv_0 p vs; simp only [hv]; split <;> omega
theorem hv_hi (p : Int → Bool) : ∀ L, hv p L + 1 ≤ 2 ^ L.length
  | [] => by simp [hv]
  | v :: vs => by
    have := hv_hi p vs
    simp only [hv, List.length_cons, Int.pow_succ]
    split <;> omega
theorem hx_1 (m : Int) : ∀ L, 1 ≤ hx m L
  | [] => by simp [hx]
  | v :: vs => by have := hx_1 m vs; simp only [hx]; split <;> omega
theorem hv_same {p p' : Int → Bool} : ∀ {L : List Int}, (∀ v ∈ L, p' v = p v) → hv p' L = hv p L
  | [], _ => rfl
  | v :: vs, h => by simp only [hv, h v List.mem_cons_self, hv_same fun u hu => h u (List.mem_cons_of_mem _ hu)]
theorem hv_set {p p' : Int → Bool} {u : Int} : ∀ {L : List Int}, L.Pairwise (· < ·) → u ∈ L → (∀ v, v ≠ u → p' v = p v) → p u = false → p' u = true → hv p' L = hv p L + hx u L
  | [], _, hu, _, _, _ => nomatch hu
  | v :: vs, hs, hu, ho, h0, h1 => by
    obtain ⟨hs1, hs2⟩ := List.pairwise_cons.mp hs
    by_cases e : u = v
    · subst e
      have := hv_same (p := p) (p' := p') (L := vs) fun z hz => ho z (by have := hs1 z hz; omega)
      simp only [hv, hx, h0, h1, this, Int.le_refl, if_true, Bool.false_eq_true, if_false]
      omega
    · have hu' : u ∈ vs := (List.mem_cons.mp hu).resolve_left e
      have ih := hv_set hs2 hu' ho h0 h1
      have := hs1 u hu'
      have n : ¬ u ≤ v := by omega
      simp only [hv, hx, ho v (Ne.symm e), if_neg n, ih]
      omega
theorem hx_dbl {m u : Int} : ∀ {L : List Int}, L.Pairwise (· < ·) → u ∈ L → u < m → 2 * hx u L ≤ hx m L
  | [], _, hu, _ => nomatch hu
  | v :: vs, hs, hu, hm => by
    obtain ⟨hs1, hs2⟩ := List.pairwise_cons.mp hs
    by_cases e : u = v
    · subst e
      have n : ¬ m ≤ u := by omega
      have := hx_1 m vs
      simp only [hx, Int.le_refl, if_true, if_neg n]
      omega
    · have hu' : u ∈ vs := (List.mem_cons.mp hu).resolve_left e
      have ih := hx_dbl hs2 hu' hm
      have := hs1 u hu'
      have n : ¬ u ≤ v := by omega
      have n2 : ¬ m ≤ v := by omega
      simp only [hx, if_neg n, if_neg n2]
      omega
/-- one going by a door: p who is beyond, m what it remembers -/
structure DS (p : Int → Bool) (m : Int) (p' : Int → Bool) (m' u : Int) : Prop where
  mem : m' = u
  oth : ∀ v, v ≠ u → p' v = p v
  go : (p u = false ∧ p' u = true ∧ m < u) ∨ (p u = true ∧ p' u = false ∧ u < m)
def gp (F : List Int) (p : Int → Bool) (m w : Int) : Int := if m ≤ w then hv p (F.filter fun v => decide (w < v)) else hv p (F.filter fun v => decide (w < v)) - hx m (F.filter fun v => decide (w < v))
/-- how often one has gone, at the most -/
def psi (F : List Int) (p : Int → Bool) (m w : Int) : Int := 2 * max (-1) (gp F p m w) + (if p w then 1 else 0) + 2
theorem gp_hi (F : List Int) (p : Int → Bool) (m w : Int) : gp F p m w + 1 ≤ 2 ^ (F.filter fun v => decide (w < v)).length := by
  have h1 := hv_hi p (F.filter fun v => decide (w < v))
  have h2 := hx_1 m (F.filter fun v => decide (w < v))
  unfold gp
  split <;> omega
theorem psi_0 (F : List Int) (p : Int → Bool) (m w : Int) : 0 ≤ psi F p m w := by
  unfold psi
  split <;> omega
theorem psi_hi (F : List Int) (p : Int → Bool) (m w : Int) : psi F p m w ≤ 2 * 2 ^ (F.filter fun v => decide (w < v)).length + 1 := by
  have h1 := gp_hi F p m w
  have h2 : (1 : Int) ≤ 2 ^ (F.filter fun v => decide (w < v)).length := Int.pow_pos (by decide)
  unfold psi
  split <;> omega
theorem psi_step {F : List Int} (hF : F.Pairwise (· < ·)) {p p' : Int → Bool} {m m' u : Int} (hu : u ∈ F) (s : DS p m p' m' u) (w : Int) : psi F p m w + (if u = w then 1 else 0) ≤ psi F p' m' w := by
  have hL : (F.filter fun v => decide (w < v)).Pairwise (· < ·) := hF.sublist List.filter_sublist
  have mL : ∀ v, v ∈ (F.filter fun v => decide (w < v)) ↔ v ∈ F ∧ w < v := fun v => by simp [List.mem_filter]
  unfold psi gp
  generalize (F.filter fun v => decide (w < v)) = L at hL mL
  have hx1 := hx_1 m L
  have hv0 := hv_0 p L
  have em := s.mem
  subst em
  by_cases hw : m' ≤ w
  · have e := hv_same (p := p) (p' := p') (L := L) fun v hv => s.oth v (by have := ((mL v).mp hv).2; omega)
    rw [e, if_pos hw]
    by_cases ew : m' = w
    · subst ew
      rcases s.go with ⟨h1, h2, h3⟩ | ⟨h1, h2, h3⟩
      · rw [if_pos (show m ≤ m' by omega)]
        simp only [h1, h2, if_true, Bool.false_eq_true, if_false]
        omega
      · rw [if_neg (show ¬ m ≤ m' by omega)]
        simp only [h1, h2, if_true, Bool.false_eq_true, if_false]
        omega
    · rw [if_neg ew, s.oth w (Ne.symm ew)]
      split <;> omega
  · have uL : m' ∈ L := (mL m').mpr ⟨hu, by omega⟩
    rw [if_neg hw, if_neg (show ¬ m' = w by omega), s.oth w (by omega)]
    rcases s.go with ⟨h1, h2, h3⟩ | ⟨h1, h2, h3⟩
    · have e := hv_set hL uL s.oth h1 h2
      rw [e]
      split <;> omega
    · have e := hv_set hL uL (fun v hv => (s.oth v hv).symm) h2 h1
      have d := hx_dbl hL uL h3
      rw [e, if_neg (show ¬ m ≤ w by omega)]
      omega
/-- the same of depths: all turned about -/
def psiN (F : List Int) (p : Int → Bool) (m w : Int) : Int := psi (F.map fun v => -v).reverse (fun v => !p (-v)) (-m) (-w)
theorem DS.neg {p p' : Int → Bool} {m m' u : Int} (s : DS p m p' m' u) : DS (fun v => !p (-v)) (-m) (fun v => !p' (-v)) (-m') (-u) := by
  refine ⟨by rw [s.mem], fun v hv => ?_, ?_⟩
  · rw [s.oth (-v) (by omega)]
  · simp only [Int.neg_neg]
    rcases s.go with ⟨h1, h2, h3⟩ | ⟨h1, h2, h3⟩
    · exact .inr ⟨by simp [h1], by simp [h2], by omega⟩
    · exact .inl ⟨by simp [h1], by simp [h2], by omega⟩
theorem negF {F : List Int} (hF : F.Pairwise (· < ·)) : (F.map fun v => -v).reverse.Pairwise (· < ·) := by
  rw [List.pairwise_reverse, List.pairwise_map]
  exact hF.imp fun h => by omega
theorem negL {F : List Int} {w : Int} : ((F.map fun v => -v).reverse.filter fun v => decide (-w < v)).length = (F.filter fun v => decide (v < w)).length := by
  rw [List.filter_reverse, List.length_reverse, List.filter_map, List.length_map]
  congr 1
  refine List.filter_congr fun v _ => ?_
  simp only [Function.comp]
  exact decide_eq_decide.mpr (by omega)
theorem psiN_0 (F : List Int) (p : Int → Bool) (m w : Int) : 0 ≤ psiN F p m w := psi_0 _ _ _ _
theorem psiN_hi (F : List Int) (p : Int → Bool) (m w : Int) : psiN F p m w ≤ 2 * 2 ^ (F.filter fun v => decide (v < w)).length + 1 := by
  have := psi_hi (F.map fun v => -v).reverse (fun v => !p (-v)) (-m) (-w)
  rw [negL] at this
  exact this
theorem psiN_step {F : List Int} (hF : F.Pairwise (· < ·)) {p p' : Int → Bool} {m m' u : Int} (hu : u ∈ F) (s : DS p m p' m' u) (w : Int) : psiN F p m w + (if u = w then 1 else 0) ≤ psiN F p' m' w := by
  have := psi_step (negF hF) (u := -u) (by simpa using hu) s.neg (-w)
  have e : (if -u = -w then (1 : Int) else 0) = if u = w then 1 else 0 := by
    by_cases h : u = w
    · rw [if_pos h, if_pos (by omega)]
    · rw [if_neg h, if_neg (by omega)]
  rw [e] at this
  exact this
def pot1 (F : List Int) (p : Int → Bool) (m w : Int) : Int := if (F.filter fun v => decide (w < v)).length ≤ (F.filter fun v => decide (v < w)).length then psi F p m w else psiN F p m w
theorem pot1_0 (F : List Int) (p : Int → Bool) (m w : Int) : 0 ≤ pot1 F p m w := by
  unfold pot1
  split
  · exact psi_0 _ _ _ _
  · exact psiN_0 _ _ _ _
theorem two_part {F : List Int} (hF : F.Pairwise (· < ·)) {w : Int} (hw : w ∈ F) : (F.filter fun v => decide (w < v)).length + (F.filter fun v => decide (v < w)).length + 1 ≤ F.length := by
  induction F with
  | nil => simp at hw
  | cons a F ih =>
    obtain ⟨h1, h2⟩ := List.pairwise_cons.mp hF
    rcases List.mem_cons.mp hw with rfl | hw
    · have e1 : (F.filter fun v => decide (w < v)) = F := List.filter_eq_self.mpr fun v hv => by simpa using h1 v hv
      have e2 : (F.filter fun v => decide (v < w)) = [] := List.filter_eq_nil_iff.mpr fun v hv => by have := h1 v hv; simp; omega
      simp [List.filter_cons, e1, e2]
    · have := ih h2 hw
      have h3 := h1 w hw
      have n : ¬ w < a := by omega
      simp only [List.filter_cons, n, h3, decide_true, decide_false, if_true, Bool.false_eq_true, if_false, List.length_cons]
      omega
theorem pot1_hi {F : List Int} (hF : F.Pairwise (· < ·)) (p : Int → Bool) (m : Int) {w : Int} (hw : w ∈ F) : pot1 F p m w ≤ 2 * 2 ^ ((F.length - 1) / 2) + 1 := by
  have tp := two_part hF hw
  unfold pot1
  split
  · have h1 := psi_hi F p m w
    have h2 : (2 : Int) ^ (F.filter fun v => decide (w < v)).length ≤ 2 ^ ((F.length - 1) / 2) := by
      have := Nat.pow_le_pow_right (n := 2) (by decide) (show (F.filter fun v => decide (w < v)).length ≤ (F.length - 1) / 2 by omega)
      exact_mod_cast this
    omega
  · have h1 := psiN_hi F p m w
    have h2 : (2 : Int) ^ (F.filter fun v => decide (v < w)).length ≤ 2 ^ ((F.length - 1) / 2) := by
      have := Nat.pow_le_pow_right (n := 2) (by decide) (show (F.filter fun v => decide (v < w)).length ≤ (F.length - 1) / 2 by omega)
      exact_mod_cast this
    omega
theorem pot1_step {F : List Int} (hF : F.Pairwise (· < ·)) {p p' : Int → Bool} {m m' u : Int} (hu : u ∈ F) (s : DS p m p' m' u) (w : Int) : pot1 F p m w + (if u = w then 1 else 0) ≤ pot1 F p' m' w := by
  unfold pot1
  split
  · exact psi_step hF hu s w
  · exact psiN_step hF hu s w
theorem sum_step {f g : Int → Int} : ∀ {F : List Int}, (∀ w ∈ F, f w ≤ g w) → (F.map f).sum ≤ (F.map g).sum
  | [], _ => by simp
  | w :: F, h => by
    have h1 := h w List.mem_cons_self
    have h2 := sum_step (F := F) fun v hv => h v (List.mem_cons_of_mem _ hv)
    simp only [List.map_cons, List.sum_cons]
    omega
theorem sum_step1 {f g : Int → Int} {u : Int} : ∀ {F : List Int}, u ∈ F → (∀ w ∈ F, f w + (if u = w then 1 else 0) ≤ g w) → (F.map f).sum + 1 ≤ (F.map g).sum
  | [], hu, _ => nomatch hu
  | w :: F, hu, h => by
    have h1 := h w List.mem_cons_self
    have h2 := fun v hv => h v (List.mem_cons_of_mem _ hv)
    simp only [List.map_cons, List.sum_cons]
    by_cases e : u = w
    · rw [if_pos e] at h1
      have := sum_step (F := F) (f := f) (g := g) fun v hv => by have := h2 v hv; split at this <;> omega
      omega
    · have := sum_step1 ((List.mem_cons.mp hu).resolve_left e) h2
      rw [if_neg e] at h1
      omega
theorem sumN_step {f g : Nat → Int} : ∀ {F : List Nat}, (∀ w ∈ F, f w ≤ g w) → (F.map f).sum ≤ (F.map g).sum
  | [], _ => by simp
  | w :: F, h => by
    have h1 := h w List.mem_cons_self
    have h2 := sumN_step (F := F) fun v hv => h v (List.mem_cons_of_mem _ hv)
    simp only [List.map_cons, List.sum_cons]
    omega
theorem sumN_step1 {f g : Nat → Int} {u : Nat} : ∀ {F : List Nat}, u ∈ F → (∀ w ∈ F, f w + (if u = w then 1 else 0) ≤ g w) → (F.map f).sum + 1 ≤ (F.map g).sum
  | [], hu, _ => nomatch hu
  | w :: F, hu, h => by
    have h1 := h w List.mem_cons_self
    have h2 := fun v hv => h v (List.mem_cons_of_mem _ hv)
    simp only [List.map_cons, List.sum_cons]
    by_cases e : u = w
    · rw [if_pos e] at h1
      have := sumN_step (F := F) (f := f) (g := g) fun v hv => by have := h2 v hv; split at this <;> omega
      omega
    · have := sumN_step1 ((List.mem_cons.mp hu).resolve_left e) h2
      rw [if_neg e] at h1
      omega
theorem sum_hi {f : Int → Int} {c : Int} : ∀ {F : List Int}, (∀ w ∈ F, f w ≤ c) → (F.map f).sum ≤ F.length * c
  | [], _ => by simp
  | w :: F, h => by
    have h1 := h w List.mem_cons_self
    have h2 := sum_hi (F := F) fun v hv => h v (List.mem_cons_of_mem _ hv)
    simp only [List.map_cons, List.sum_cons, List.length_cons, Int.natCast_add, Int.add_mul]
    omega
theorem sumN_hi {f : Nat → Int} {c : Int} : ∀ {F : List Nat}, (∀ w ∈ F, f w ≤ c) → (F.map f).sum ≤ F.length * c
  | [], _ => by simp
  | w :: F, h => by
    have h1 := h w List.mem_cons_self
    have h2 := sumN_hi (F := F) fun v hv => h v (List.mem_cons_of_mem _ hv)
    simp only [List.map_cons, List.sum_cons, List.length_cons, Int.natCast_add, Int.add_mul]
    omega
theorem sumN_0 {f : Nat → Int} : ∀ {F : List Nat}, (∀ w ∈ F, 0 ≤ f w) → 0 ≤ (F.map f).sum
  | [], _ => by simp
  | w :: F, h => by
    have h1 := h w List.mem_cons_self
    have h2 := sumN_0 (F := F) fun v hv => h v (List.mem_cons_of_mem _ hv)
    simp only [List.map_cons, List.sum_cons]
    omega
theorem sumI_0 {f : Int → Int} : ∀ {F : List Int}, (∀ w ∈ F, 0 ≤ f w) → 0 ≤ (F.map f).sum
  | [], _ => by simp
  | w :: F, h => by
    have h1 := h w List.mem_cons_self
    have h2 := sumI_0 (F := F) fun v hv => h v (List.mem_cons_of_mem _ hv)
    simp only [List.map_cons, List.sum_cons]
    omega
/-- beyond the k-th door (from 0) -/
def bey (R : List (List Int)) (k : Nat) (v : Int) : Bool := decide (v ∈ (R.drop (k + 1)).flatten)
theorem bey_iff {R : List (List Int)} {k : Nat} {v : Int} : bey R k v = true ↔ ∃ i, k < i ∧ v ∈ R.getD i [] := by
  rw [bey, decide_eq_true_eq, List.mem_flatten]
  constructor
  · rintro ⟨r, hr, hv⟩
    obtain ⟨j, hj⟩ := List.mem_iff_getElem?.mp hr
    rw [List.getElem?_drop] at hj
    exact ⟨k + 1 + j, by omega, by rw [List.getD_eq_getElem?_getD, hj]; exact hv⟩
  · rintro ⟨i, hi, hv⟩
    rw [List.getD_eq_getElem?_getD] at hv
    cases e : R[i]? with
    | none => rw [e] at hv; simp at hv
    | some r =>
      rw [e] at hv
      exact ⟨r, List.mem_iff_getElem?.mpr ⟨i - (k + 1), by rw [List.getElem?_drop, show k + 1 + (i - (k + 1)) = i by omega]; exact e⟩, hv⟩
theorem mem_behF {R : List (List Int)} {w v : Int} {k i : Nat} (hk : k + 1 < R.length) (c : w ∈ R.getD k []) : v ∈ (behR R w k).getD i [] ↔ (i = k ∧ v ∈ R.getD k [] ∧ v ≠ w) ∨ (i = k + 1 ∧ (v ∈ R.getD (k + 1) [] ∨ v = w)) ∨ (i ≠ k ∧ i ≠ k + 1 ∧ v ∈ R.getD i []) := by
  simp only [behR, if_pos c]
  rw [set_getD (by rw [List.length_set]; omega), set_getD (by omega)]
  by_cases e1 : i = k + 1
  · subst e1
    rw [if_pos rfl, isrt_mem]
    simp
  · rw [if_neg e1]
    by_cases e2 : i = k
    · subst e2
      rw [if_pos rfl]
      simp
    · rw [if_neg e2]
      simp [e1, e2]
theorem mem_behB {R : List (List Int)} {w v : Int} {k i : Nat} (hk : k + 1 < R.length) (c : ¬ w ∈ R.getD k []) : v ∈ (behR R w k).getD i [] ↔ (i = k + 1 ∧ v ∈ R.getD (k + 1) [] ∧ v ≠ w) ∨ (i = k ∧ (v ∈ R.getD k [] ∨ v = w)) ∨ (i ≠ k ∧ i ≠ k + 1 ∧ v ∈ R.getD i []) := by
  simp only [behR, if_neg c]
  rw [set_getD (by rw [List.length_set]; omega), set_getD (by omega)]
  by_cases e1 : i = k
  · subst e1
    rw [if_pos rfl, isrt_mem]
    simp
  · rw [if_neg e1]
    by_cases e2 : i = k + 1
    · subst e2
      rw [if_pos rfl]
      simp
    · rw [if_neg e2]
      simp [e1, e2]
theorem bool_ext {a b : Bool} (h : a = true ↔ b = true) : a = b := by cases a <;> cases b <;> simp_all
theorem bey_step {folk : List Int} {d : Nat} {R : List (List Int)} {D : List Int} (f : Fk folk) (h : Hou folk d R D) {w : Int} {k : Nat} (hk : k < d) (l : Let R D w k) : DS (bey R k) (D.getD k 0) (bey (behR R w k) k) w w := by
  have hlr := h.lr
  have hk1 : k + 1 < R.length := by omega
  rcases l with ⟨c, l⟩ | ⟨c, c2, l⟩
  · refine ⟨rfl, fun v hv => bool_ext ?_, .inl ⟨?_, ?_, l⟩⟩
    · rw [bey_iff, bey_iff]
      refine exists_congr fun i => and_congr_right fun hi => ?_
      rw [mem_behF hk1 c]
      constructor
      · rintro (⟨e, _⟩ | ⟨e, h1 | h1⟩ | ⟨_, _, h1⟩)
        · omega
        · rw [e]; exact h1
        · exact absurd h1 hv
        · exact h1
      · intro h1
        by_cases e : i = k + 1
        · exact .inr (.inl ⟨e, .inl (by rw [← e]; exact h1)⟩)
        · exact .inr (.inr ⟨by omega, e, h1⟩)
    · rw [← Bool.not_eq_true, bey_iff]
      rintro ⟨i, hi, hv⟩
      exact h.one f hi c hv
    · rw [bey_iff]
      exact ⟨k + 1, by omega, beh_forth hk1 c⟩
  · refine ⟨rfl, fun v hv => bool_ext ?_, .inr ⟨?_, ?_, l⟩⟩
    · rw [bey_iff, bey_iff]
      refine exists_congr fun i => and_congr_right fun hi => ?_
      rw [mem_behB hk1 c]
      constructor
      · rintro (⟨e, h1, _⟩ | ⟨e, _⟩ | ⟨_, _, h1⟩)
        · rw [e]; exact h1
        · omega
        · exact h1
      · intro h1
        by_cases e : i = k + 1
        · exact .inl ⟨e, by rw [← e]; exact h1, hv⟩
        · exact .inr (.inr ⟨by omega, e, h1⟩)
    · rw [bey_iff]
      exact ⟨k + 1, by omega, c2⟩
    · rw [← Bool.not_eq_true, bey_iff]
      rintro ⟨i, hi, hv⟩
      rw [mem_behB hk1 c] at hv
      rcases hv with ⟨_, _, e⟩ | ⟨e, _⟩ | ⟨_, e, hv⟩
      · exact e rfl
      · omega
      · exact h.one f (show k + 1 < i by omega) c2 hv
theorem bey_other {folk : List Int} {d : Nat} {R : List (List Int)} {D : List Int} (h : Hou folk d R D) {w : Int} {k j : Nat} (hk : k < d) (l : Let R D w k) (hj : j ≠ k) : bey (behR R w k) j = bey R j := by
  have hlr := h.lr
  have hk1 : k + 1 < R.length := by omega
  funext v
  apply bool_ext
  rw [bey_iff, bey_iff]
  by_cases e : v = w
  · subst e
    rcases Nat.lt_or_gt_of_ne hj with hj | hj
    · constructor
      · intro _
        rcases l with ⟨c, l⟩ | ⟨c, c2, l⟩
        · exact ⟨k, hj, c⟩
        · exact ⟨k + 1, by omega, c2⟩
      · intro _
        rcases l with ⟨c, l⟩ | ⟨c, c2, l⟩
        · exact ⟨k + 1, by omega, beh_forth hk1 c⟩
        · exact ⟨k, hj, beh_back hk1 c⟩
    · refine exists_congr fun i => and_congr_right fun hi => ?_
      rw [beh_other hk1 (by omega) (by omega)]
  · refine exists_congr fun i => and_congr_right fun hi => ?_
    rcases l with ⟨c, l⟩ | ⟨c, c2, l⟩
    · rw [mem_behF hk1 c]
      by_cases e1 : i = k
      · subst e1; simp [e]
      · by_cases e2 : i = k + 1
        · subst e2; simp [e]
        · simp [e1, e2]
    · rw [mem_behB hk1 c]
      by_cases e1 : i = k
      · subst e1; simp [e]
      · by_cases e2 : i = k + 1
        · subst e2; simp [e]
        · simp [e1, e2]
/-- all goings there have been, at the most -/
def pot (F : List Int) (R : List (List Int)) (D : List Int) (d : Nat) : Int := ((List.range d).map fun k => (F.map fun w => pot1 F (bey R k) (D.getD k 0) w).sum).sum
theorem pot_0 (F : List Int) (R : List (List Int)) (D : List Int) (d : Nat) : 0 ≤ pot F R D d := sumN_0 fun k _ => sumI_0 fun w _ => pot1_0 _ _ _ _
theorem pot_hi {F : List Int} (hF : F.Pairwise (· < ·)) (R : List (List Int)) (D : List Int) (d : Nat) : pot F R D d ≤ d * (F.length * (2 * 2 ^ ((F.length - 1) / 2) + 1)) := by
  have := sumN_hi (F := List.range d) (f := fun k => (F.map fun w => pot1 F (bey R k) (D.getD k 0) w).sum) (c := F.length * (2 * 2 ^ ((F.length - 1) / 2) + 1)) fun k _ => sum_hi fun w hw => pot1_hi hF _ _ hw
  rw [List.length_range] at this
  exact this
theorem pot_step {folk : List Int} {d : Nat} {R : List (List Int)} {D : List Int} (f : Fk folk) (h : Hou folk d R D) {w : Int} {k : Nat} (hk : k < d) (l : Let R D w k) : pot folk R D d + 1 ≤ pot folk (behR R w k) (D.set k w) d := by
  have hw : w ∈ folk := by
    have hlr := h.lr
    have e0 : R[k]? = some (R.getD k []) := by rw [List.getD_eq_getElem?_getD, List.getElem?_eq_getElem (by omega)]; rfl
    have e1 : R[k + 1]? = some (R.getD (k + 1) []) := by rw [List.getD_eq_getElem?_getD, List.getElem?_eq_getElem (by omega)]; rfl
    rcases l with ⟨c, _⟩ | ⟨_, c, _⟩
    · exact h.mem (List.mem_of_getElem? e0) c
    · exact h.mem (List.mem_of_getElem? e1) c
  have hld := h.ld
  refine sumN_step1 (u := k) (List.mem_range.mpr hk) fun j hj => ?_
  by_cases e : k = j
  · subst e
    rw [if_pos rfl]
    refine sum_step1 hw fun v hv => ?_
    have := pot1_step f.srt hw (bey_step f h hk l) v
    rw [set_getD (by omega), if_pos rfl]
    exact this
  · rw [if_neg e, bey_other h hk l (Ne.symm e), set_getD (by omega), if_neg (Ne.symm e)]
    exact Int.le_of_eq (Int.add_zero _)
@[simp] theorem wO_notB {a b : Bool} {Q : Dt → Md → Prop} : wO (fNot [.b a, .b b]) Q = Q (.b (!decide (a = b))) .c := id rfl
@[simp] theorem wO_isB {a b : Bool} {Q : Dt → Md → Prop} : wO (fIs [.b a, .b b]) Q = Q (.b (decide (a = b))) .c := id rfl
theorem wO_neTi {ns ms : List Int} {Q : Dt → Md → Prop} : wO (fNe [.t (ns.map .i), .t (ms.map .i)]) Q = Q (.b (!decide (ns = ms))) .c := by
  rw [wO_neT]; simp [shp_ti, eqD_ti]
theorem wO_neT0 {ns : List Int} {Q : Dt → Md → Prop} : wO (fNe [.t (ns.map .i), .t []]) Q = Q (.b (!decide (ns = []))) .c := wO_neTi (ms := [])
theorem unwL_le {R : List (List Int)} {D : List Int} : (unwellL R D).length ≤ D.length := by
  rw [unwellL, List.length_map]
  refine Nat.le_trans (List.length_filter_le _ _) ?_
  rw [List.length_range]; omega
theorem wO_minT {ns : List Int} {Q : Dt → Md → Prop} (h : ns ≠ []) : wO (fMin1 [.t (ns.map .i)]) Q = Q (.i (lmin (ns.headD 0) ns.tail)) .c := by
  cases ns with
  | nil => exact absurd rfl h
  | cons a ns => exact wO_min1T
theorem wO_minL {ns : List Int} {Q : Dt → Md → Prop} (h : ns ≠ []) : wO (fMin1 [.l (ns.map .i)]) Q = Q (.i (lmin (ns.headD 0) ns.tail)) .c := by
  cases ns with
  | nil => exact absurd rfl h
  | cons a ns => exact wO_min1
theorem lmax_in {ns : List Int} (h : ns ≠ []) : lmax (ns.headD 0) ns.tail ∈ ns ∧ ∀ v ∈ ns, v ≤ lmax (ns.headD 0) ns.tail := by
  cases ns with
  | nil => exact absurd rfl h
  | cons a ns =>
    obtain ⟨h1, h2, h3⟩ := lmax_spec ns a
    simp only [List.headD_cons, List.tail_cons]
    refine ⟨?_, fun v hv => ?_⟩
    · rcases h1 with h1 | h1
      · rw [h1]; exact List.mem_cons_self
      · exact List.mem_cons_of_mem _ h1
    · rcases List.mem_cons.mp hv with rfl | hv
      · exact h2
      · exact h3 v hv
theorem lmin_in {ns : List Int} (h : ns ≠ []) : lmin (ns.headD 0) ns.tail ∈ ns ∧ ∀ v ∈ ns, lmin (ns.headD 0) ns.tail ≤ v := by
  cases ns with
  | nil => exact absurd rfl h
  | cons a ns =>
    obtain ⟨h1, h2, h3⟩ := lmin_spec ns a
    simp only [List.headD_cons, List.tail_cons]
    refine ⟨?_, fun v hv => ?_⟩
    · rcases h1 with h1 | h1
      · rw [h1]; exact List.mem_cons_self
      · exact List.mem_cons_of_mem _ h1
    · rcases List.mem_cons.mp hv with rfl | hv
      · exact h2
      · exact h3 v hv
/-- a house of one door by who of a row is beyond -/
def flp (p : Int → Bool) (w : Int) : Int → Bool := fun v => if v = w then !p w else p v
theorem filter_less {p : Int → Bool} {w : Int} (h : p w = true) {row : List Int} : (row.filter p).filter (fun v => decide (v ≠ w)) = row.filter (flp p w) := by
  rw [List.filter_filter]
  refine List.filter_congr fun v _ => ?_
  unfold flp
  by_cases e : v = w
  · subst e; simp [h]
  · simp [e]
theorem filter_more {p : Int → Bool} {w : Int} (h : p w = false) : ∀ {row : List Int}, row.Nodup → w ∈ row → (row.filter (flp p w)).Perm (row.filter p ++ [w])
  | [], _, hw => nomatch hw
  | a :: row, nd, hw => by
    obtain ⟨n1, n2⟩ := List.nodup_cons.mp nd
    by_cases e : a = w
    · subst e
      have e1 : row.filter (flp p a) = row.filter p := List.filter_congr fun v hv => by
        unfold flp
        rw [if_neg fun c => n1 (by rw [← c]; exact hv)]
      simp only [List.filter_cons, h, e1, flp, if_true, Bool.not_false, Bool.false_eq_true, if_false]
      exact (List.perm_append_singleton _ _).symm
    · have ih := filter_more h n2 ((List.mem_cons.mp hw).resolve_left (Ne.symm e))
      have e1 : flp p w a = p a := by unfold flp; rw [if_neg e]
      simp only [List.filter_cons, e1]
      by_cases c : p a = true
      · simp only [c, if_true, List.cons_append]
        exact ih.cons _
      · simp only [c, Bool.false_eq_true, if_false]
        exact ih
theorem isrt_more {p : Int → Bool} {w : Int} {row : List Int} (hs : row.Pairwise (· < ·)) (hw : w ∈ row) (h : p w = false) : isrt (row.filter p ++ [w]) = row.filter (flp p w) :=
  isrt_eq (filter_more h (hs.imp fun h => by omega) hw) ((hs.sublist List.filter_sublist).imp fun h => by omega)
theorem sub_filter : ∀ {there row : List Int}, there.Sublist row → row.Nodup → row.filter (fun v => decide (v ∈ there)) = there
  | _, _, .slnil, _ => rfl
  | there, a :: row, .cons _ h, nd => by
    obtain ⟨n1, n2⟩ := List.nodup_cons.mp nd
    have : ¬ a ∈ there := fun c => n1 (h.subset c)
    simp only [List.filter_cons, this, decide_false, Bool.false_eq_true, if_false]
    exact sub_filter h n2
  | a :: there, _ :: row, .cons₂ _ h, nd => by
    obtain ⟨n1, n2⟩ := List.nodup_cons.mp nd
    have e1 : row.filter (fun v => decide (v ∈ a :: there)) = row.filter (fun v => decide (v ∈ there)) := List.filter_congr fun v hv => decide_eq_decide.mpr (by
      rw [List.mem_cons]
      exact or_iff_right fun c => n1 (by rw [← c]; exact hv))
    simp only [List.filter_cons, List.mem_cons_self, decide_true, if_true]
    rw [e1, sub_filter h n2]
/-- one behind the other, each let, by one door -/
def okRun (p : Int → Bool) (m : Int) : List Int → Prop
  | [] => True
  | w :: G => ((p w = false ∧ m < w) ∨ (p w = true ∧ w < m)) ∧ okRun (flp p w) w G
def endP (p : Int → Bool) (G : List Int) : Int → Bool := G.foldl flp p
def endM (m : Int) (G : List Int) : Int := G.foldl (fun _ w => w) m
theorem endM_c (m w : Int) (G : List Int) : endM m (w :: G) = endM w G := rfl
theorem okRun_app : ∀ {L : List Int} {p : Int → Bool} {m : Int} {G : List Int}, okRun p m L → okRun (endP p L) (endM m L) G → okRun p m (L ++ G)
  | [], _, _, _, _, h => by simpa [endP, endM] using h
  | w :: L, p, m, G, h1, h2 => by
    refine ⟨h1.1, okRun_app h1.2 ?_⟩
    rw [endM_c] at h2
    exact h2
theorem okRun_up : ∀ {L : List Int} {p : Int → Bool} {m : Int}, L.Pairwise (· < ·) → (∀ v ∈ L, p v = false ∧ m < v) → okRun p m L ∧ ∀ v, endP p L v = (p v || decide (v ∈ L))
  | [], p, m, _, _ => ⟨trivial, fun v => by simp [endP]⟩
  | w :: L, p, m, hs, h => by
    obtain ⟨h1, h2⟩ := List.pairwise_cons.mp hs
    have hw := h w List.mem_cons_self
    obtain ⟨i1, i2⟩ := okRun_up (L := L) (p := flp p w) (m := w) h2 fun v hv => by
      have := h1 v hv
      refine ⟨?_, this⟩
      unfold flp
      rw [if_neg (by omega)]
      exact (h v (List.mem_cons_of_mem _ hv)).1
    refine ⟨⟨.inl hw, i1⟩, fun v => ?_⟩
    have := i2 v
    unfold endP at this ⊢
    rw [List.foldl_cons, this]
    unfold flp
    by_cases e : v = w
    · subst e; simp [hw.1]
    · simp [e]
theorem last_ge {L : List Int} (hs : L.Pairwise (· < ·)) {m v : Int} (hv : v ∈ L) : v ≤ endM m L := by
  induction L generalizing m v with
  | nil => simp at hv
  | cons a L ih =>
    obtain ⟨h1, h2⟩ := List.pairwise_cons.mp hs
    rw [endM_c]
    rcases List.mem_cons.mp hv with rfl | hv
    · cases L with
      | nil => exact Int.le_refl _
      | cons b L =>
        have := h1 b List.mem_cons_self
        have := ih h2 (m := v) (v := b) List.mem_cons_self
        omega
    · exact ih h2 hv
theorem last_in : ∀ {L : List Int}, L ≠ [] → ∀ m : Int, endM m L ∈ L
  | [], h, _ => absurd rfl h
  | [a], _, m => by simp [endM]
  | a :: b :: L, _, m => by
    rw [endM_c]
    exact List.mem_cons_of_mem _ (last_in (by simp) a)
/-- a variable lent -/
theorem wE_lend {i : Nat} {f : Ev → Ou Vl} {r : Ev} {xs : List Dt} {Q : Vl → Ev → Prop} (h : r[i]? = some (some (.l xs, .t))) (q : wE f (r.set i (some (.l xs, .c))) fun x r2 => zfl x = true ∧ okE i r2 = true ∧ Q x (ownE i r2)) : wE (mLend i f) r Q := by
  unfold wE at q ⊢
  simp only [mLend, h]
  cases hf : f (r.set i (some (.l xs, .c))) with
  | no => rw [hf] at q; exact q
  | ex c fs r' => rw [hf] at q; exact q
  | ok xm r' =>
    rw [hf] at q
    simp only at q ⊢
    rw [q.1, q.2.1]
    exact q.2.2
@[simp] theorem okE_0 {r : Ev} {ys : List Dt} : okE 0 (some (.l ys, .c) :: r) = (flatL ys && r.all flS) := id rfl
@[simp] theorem okE_s {r : Ev} {i : Nat} {o : Option Vl} : okE (i + 1) (o :: r) = (flS o && okE i r) := id rfl
@[simp] theorem ownE_0 {r : Ev} {ys : List Dt} : ownE 0 (some (.l ys, .c) :: r) = some (.l ys, .t) :: r := id rfl
@[simp] theorem ownE_s {r : Ev} {i : Nat} {o : Option Vl} : ownE (i + 1) (o :: r) = o :: ownE i r := id rfl
@[simp] theorem flS_n : flS none = true := id rfl
@[simp] theorem flS_s {xm : Vl} : flS (some xm) = zfl xm := id rfl
@[simp] theorem allS_n : ([] : Ev).all flS = true := id rfl
@[simp] theorem allS_s {o : Option Vl} {r : Ev} : (o :: r).all flS = (flS o && r.all flS) := id rfl
/-! what repr tells is a text -/
theorem strOk_of (s : String) : PyData.strOk (PySem.Str.ofString s) = true := by
  rw [PySem.Str.ofString_eq_toList]
  simp only [PyData.strOk, List.all_toArray, List.all_map, List.all_eq_true, Function.comp, decide_eq_true_eq]
  intro c _
  have := c.valid
  have h : c.toNat = c.val.toNat := rfl
  rcases this with h1 | h1
  · omega
  · omega
theorem strOk_app {a b : Str} (ha : PyData.strOk a = true) (hb : PyData.strOk b = true) : PyData.strOk (a ++ b) = true := by
  have e : PyData.strOk (a ++ b) = (PyData.strOk a && PyData.strOk b) := by
    show (a.cps ++ b.cps).all _ = _
    rw [Array.all_append]
    rfl
  rw [e, ha, hb]; rfl
theorem strOk_join {sep : Str} (hs : PyData.strOk sep = true) : ∀ {ts : List Str}, (∀ t ∈ ts, PyData.strOk t = true) → PyData.strOk (PySem.Str.join sep ts) = true
  | [], _ => by
    show PyData.strOk PySem.Str.empty = true
    first | decide | simp [PyData.strOk, PySem.Str.empty] | exact strOk_of ""
  | [x], h => h x (by simp)
  | x :: y :: r, h => by
    show PyData.strOk (x ++ sep ++ PySem.Str.join sep (y :: r)) = true
    exact strOk_app (strOk_app (h x (by simp)) hs) (strOk_join hs fun t ht => h t (List.mem_cons_of_mem _ ht))
theorem strOk_from : ∀ {ts : List Str} {k : Nat} {acc : Str}, PyData.strOk acc = true → (∀ t ∈ ts, PyData.strOk t = true) → PyData.strOk (PySem.textFrom k acc ts) = true
  | [], k, acc, h, _ => h
  | t :: ts, k, acc, h, q => by
    show PyData.strOk (PySem.textFrom (k + 1) _ ts) = true
    exact strOk_from (strOk_app (strOk_app h (strOk_of _)) (q t (by simp))) fun u hu => q u (List.mem_cons_of_mem _ hu)
mutual
theorem shown_ok : ∀ x : Dt, lf x = true → PyData.strOk (toP x).shown = true
  | .n, _ => strOk_of _
  | .b b, _ => by
    show PyData.strOk (if b then PySem.Str.ofString "True" else PySem.Str.ofString "False") = true
    cases b
    · exact strOk_of _
    · exact strOk_of _
  | .i a, _ => strOk_of _
  | .s z, h => by simp [lf] at h
  | .t xs, h => by
    have ih := shownL_ok xs h
    simp only [toP, PyData.shown, PySem.tupleText]
    exact strOk_app (strOk_app (strOk_of _) (strOk_join (strOk_of _) ih)) (strOk_of _)
  | .l xs, h => by
    have ih := shownL_ok xs h
    simp only [toP, PyData.shown, PySem.listText]
    exact strOk_app (strOk_from (strOk_of _) ih) (strOk_of _)
  | .z xs, h => by simp [lf] at h
  | .m _ _, h => by simp [lf] at h
  | .o _ _ _, h => by simp [lf] at h
theorem shownL_ok : ∀ xs : List Dt, lf.lfL xs = true → ∀ t ∈ PyData.shownAll (toPL xs), PyData.strOk t = true
  | [], _, t, ht => by simp [toPL, PyData.shownAll] at ht
  | x :: xs, h, t, ht => by
    simp only [lf.lfL, Bool.and_eq_true] at h
    simp only [toPL, PyData.shownAll, List.mem_cons] at ht
    rcases ht with rfl | ht
    · exact shown_ok x h.1
    · exact shownL_ok xs h.2 t ht
end
theorem wO_neR {x : Dt} {d : Nat} {Q : Dt → Md → Prop} (hx : ∀ z, x ≠ .s z) (h : pl d x = true) (hd : d ≤ 60) : wO (fNe [x, x]) Q = Q (.b false) .c := by
  rw [wO_ne hx, pl_shp h hd, eqD_refl h]
  simp
theorem wO_eqR {x : Dt} {d : Nat} {Q : Dt → Md → Prop} (hx : ∀ z, x ≠ .s z) (h : pl d x = true) (hd : d ≤ 60) : wO (fEq [x, x]) Q = Q (.b true) .c := by
  rw [wO_eq hx, pl_shp h hd, eqD_refl h]
  simp
@[simp] theorem wE_MtV {p : List Dt → Option Vl} {i : Nat} {as : List Am} {r : Ev} {Q : Vl → Ev → Prop} : wE (mMt p (.v i) as) r Q = (isL i r = true ∧ wE (mP p (.v i :: as)) r Q) := by
  unfold wE
  simp only [mMt, evA]
  cases h : r[i]? with
  | none => simp [isL, h]
  | some o =>
    cases o with
    | none => simp [isL, h]
    | some xm =>
      obtain ⟨x, m⟩ := xm
      simp only [look, h, Option.map_some]
      cases x <;> simp [isL, h, isLd]
@[simp] theorem wE_MtE {p : List Dt → Option Vl} {f : Ev → Ou Vl} {as : List Am} {r : Ev} {Q : Vl → Ev → Prop} : wE (mMt p (.e f) as) r Q = (wE f r (fun x _ => isLd x.1 = true) ∧ wE (mP p (.e f :: as)) r Q) := by
  unfold wE
  simp only [mMt, evA]
  cases h : f r with
  | ok xm r1 =>
    obtain ⟨x, m⟩ := xm
    simp only [look, Option.map_some]
    by_cases c : isLd x = true
    · simp [c]
    · simp [c]
  | ex c fs r1 => simp
  | no => simp
@[simp] theorem isLd_l {xs : List Dt} : isLd (.l xs) = true := id rfl
theorem wO_cntI {ns : List Int} {a : Int} {Q : Dt → Md → Prop} : wO (fCnt [.l (ns.map .i), .i a]) Q = Q (.i (ns.count a : Nat)) .c := by
  have e : (ns.map Dt.i).countP (fun z => eqD z (.i a)) = ns.count a := by
    rw [List.countP_map, List.count]
    exact List.countP_congr fun z _ => by simp [eqD_i]
  simp only [fCnt, shp_li, shp_i, Bool.and_self, if_true, wO_some, e]
theorem eqD_pr (p q : Int × Int) : eqD (pr p) (pr q) = decide (p = q) := by
  have := eqD_ti [p.1, p.2] [q.1, q.2]
  rw [show pr p = .t ([p.1, p.2].map .i) from rfl, show pr q = .t ([q.1, q.2].map .i) from rfl, this]
  obtain ⟨a, b⟩ := p
  obtain ⟨c, d⟩ := q
  simp
theorem wO_cntP {ps : List (Int × Int)} {q : Int × Int} (h : ps.length ≤ LIM) {Q : Dt → Md → Prop} : wO (fCnt [.l (ps.map pr), pr q]) Q = Q (.i (ps.count q : Nat)) .c := by
  have e : (ps.map pr).countP (fun z => eqD z (pr q)) = ps.count q := by
    rw [List.countP_map, List.count]
    exact List.countP_congr fun z _ => by simp [eqD_pr]
  have h1 : shp (.l (ps.map pr)) = true := pl_shp (pl_pr (d := 9) h) (by omega)
  have h2 : shp (pr q) = true := by
    have := shp_ti [q.1, q.2]
    exact this
  simp only [fCnt, h1, h2, Bool.and_self, if_true, wO_some, e]
end Y
/-! W, part G: rows of goings. -/
namespace Y
open PySem L2 PyProof.Rows
/-- goings, each let, from one house to another -/
inductive Run (d : Nat) (R0 : List (List Int)) (D0 : List Int) : List (Int × Int) → List (List Int) → List Int → Prop
  | nil : Run d R0 D0 [] R0 D0
  | snoc {ps : List (Int × Int)} {R : List (List Int)} {D : List Int} {w : Int} {k : Nat} : Run d R0 D0 ps R D → k < d → Let R D w k → Run d R0 D0 (ps ++ [(w, (k : Int) + 1)]) (behR R w k) (D.set k w)
section
variable {folk : List Int} {d : Nat} {R0 R : List (List Int)} {D0 D : List Int} {ps : List (Int × Int)}
theorem Run.hou (f : Fk folk) (h0 : Hou folk d R0 D0) (h : Run d R0 D0 ps R D) : Hou folk d R D := by
  induction h with
  | nil => exact h0
  | snoc _ hk l ih => exact l.hou f ih hk
theorem Run.unw (f : Fk folk) (h0 : Hou folk d R0 D0) (h : Run d R0 D0 ps R D) : ∀ z ∈ unwellL R D, z ∈ unwellL R0 D0 := by
  induction h with
  | nil => exact fun z hz => hz
  | snoc h hk l ih => exact fun z hz => ih z (unwell_step f (h.hou f h0) hk l hz)
theorem Let.mem (h : Hou folk d R D) {w : Int} {k : Nat} (hk : k < d) (l : Let R D w k) : w ∈ folk := by
  have hlr := h.lr
  have e0 : R[k]? = some (R.getD k []) := by rw [List.getD_eq_getElem?_getD, List.getElem?_eq_getElem (by omega)]; rfl
  have e1 : R[k + 1]? = some (R.getD (k + 1) []) := by rw [List.getD_eq_getElem?_getD, List.getElem?_eq_getElem (by omega)]; rfl
  rcases l with ⟨c, _⟩ | ⟨_, c, _⟩
  · exact h.mem (List.mem_of_getElem? e0) c
  · exact h.mem (List.mem_of_getElem? e1) c
theorem Run.pot (f : Fk folk) (h0 : Hou folk d R0 D0) (h : Run d R0 D0 ps R D) : Y.pot folk R0 D0 d + ps.length ≤ Y.pot folk R D d := by
  induction h with
  | nil => simp
  | snoc h hk l ih =>
    have := pot_step f (h.hou f h0) hk l
    rw [List.length_append, List.length_singleton]
    omega
theorem Run.len (f : Fk folk) (h0 : Hou folk d R0 D0) (h : Run d R0 D0 ps R D) : (ps.length : Int) ≤ d * (folk.length * (2 * 2 ^ ((folk.length - 1) / 2) + 1)) := by
  have h1 := h.pot f h0
  have h2 := pot_hi f.srt R D d
  have h3 := pot_0 folk R0 D0 d
  omega
theorem pair_ne {w v : Int} {k j : Nat} : ((w, (k : Int) + 1) = (v, (j : Int) + 1)) ↔ (w = v ∧ k = j) := by
  constructor
  · intro h
    injection h with h1 h2
    exact ⟨h1, by omega⟩
  · rintro ⟨rfl, rfl⟩; rfl
theorem count_snoc {w v : Int} {k j : Nat} : (ps ++ [(w, (k : Int) + 1)]).count (v, (j : Int) + 1) = ps.count (v, (j : Int) + 1) + if w = v ∧ k = j then 1 else 0 := by
  rw [List.count_append, List.count_singleton]
  congr 1
  by_cases c : w = v ∧ k = j
  · rw [if_pos c, if_pos (by rw [beq_iff_eq]; exact pair_ne.mpr c)]
  · rw [if_neg c, if_neg (by rw [beq_iff_eq]; exact fun e => c (pair_ne.mp e))]
/-- how often each goes by each door -/
theorem Run.cnt (f : Fk folk) (h0 : Hou folk d R0 D0) (h : Run d R0 D0 ps R D) (v : Int) {j : Nat} (hj : j < d) :
    psi folk (bey R0 j) (D0.getD j 0) v + (ps.count (v, (j : Int) + 1) : Nat) ≤ psi folk (bey R j) (D.getD j 0) v ∧ psiN folk (bey R0 j) (D0.getD j 0) v + (ps.count (v, (j : Int) + 1) : Nat) ≤ psiN folk (bey R j) (D.getD j 0) v := by
  induction h with
  | nil => simp
  | @snoc ps R D w k h hk l ih =>
    have hh := h.hou f h0
    have hld := hh.ld
    have hw := l.mem hh hk
    rw [count_snoc, set_getD (by omega)]
    by_cases e : j = k
    · subst e
      have s := bey_step f hh hk l
      have s1 := psi_step f.srt hw s v
      have s2 := psiN_step f.srt hw s v
      rw [if_pos rfl]
      by_cases e2 : w = v
      · rw [if_pos e2] at s1 s2
        rw [if_pos ⟨e2, rfl⟩]
        omega
      · rw [if_neg e2] at s1 s2
        rw [if_neg fun c => e2 c.1]
        omega
    · rw [if_neg e, if_neg (fun c => e c.2.symm), bey_other hh hk l e]
      omega
theorem Run.often (f : Fk folk) (h0 : Hou folk d R0 D0) (h : Run d R0 D0 ps R D) (v : Int) {j : Nat} (hj : j < d) : ((ps.count (v, (j : Int) + 1) : Nat) : Int) ≤ 2 * 2 ^ (folk.filter fun u => decide (v < u)).length + 1 := by
  have h1 := (h.cnt f h0 v hj).1
  have h2 := psi_0 folk (bey R0 j) (D0.getD j 0) v
  have h3 := psi_hi folk (bey R j) (D.getD j 0) v
  omega
/-- a new house -/
theorem hv_none {L : List Int} : hv (fun _ => false) L = 0 := by
  induction L with
  | nil => rfl
  | cons a L ih => simp [hv, ih]
theorem hv_all {L : List Int} : hv (fun _ => true) L = 2 ^ L.length - 1 := by
  induction L with
  | nil => rfl
  | cons a L ih =>
    simp only [hv, ih, if_true, List.length_cons, Int.pow_succ]
    omega
theorem hx_all {m : Int} : ∀ {L : List Int}, (∀ v ∈ L, v < m) → hx m L = 2 ^ L.length
  | [], _ => rfl
  | v :: L, h => by
    have h1 := h v List.mem_cons_self
    simp only [hx, if_neg (show ¬ m ≤ v by omega), hx_all fun u hu => h u (List.mem_cons_of_mem _ hu), List.length_cons, Int.pow_succ]
    omega
theorem new_bey {d j : Nat} {v : Int} : bey (folk :: List.replicate d []) j v = false := by
  rw [← Bool.not_eq_true, bey_iff]
  rintro ⟨i, hi, hv⟩
  obtain ⟨i, rfl⟩ : ∃ k, i = k + 1 := ⟨i - 1, by omega⟩
  rw [List.getD_cons_succ, List.getD_eq_getElem?_getD, List.getElem?_replicate] at hv
  split at hv <;> simp at hv
theorem new_psi (f : Fk folk) {p : Int → Bool} (hp : ∀ v, p v = false) {w : Int} (hw : 1 ≤ w) : psi folk p 0 w = 2 ∧ psiN folk p 0 w = 1 := by
  have ep : p = fun _ => false := funext hp
  subst ep
  constructor
  · unfold psi gp
    rw [if_pos (by omega), hv_none]
    rfl
  · unfold psiN psi gp
    rw [if_neg (show ¬ -0 ≤ -w by omega)]
    have e : ∀ v ∈ ((folk.map fun v => -v).reverse.filter fun v => decide (-w < v)), v < -0 := fun v hv => by
      have := (List.mem_filter.mp hv).1
      rw [List.mem_reverse, List.mem_map] at this
      obtain ⟨u, hu, rfl⟩ := this
      have := f.bd u hu
      omega
    rw [hx_all e]
    have e2 : (fun v : Int => !(fun _ => false) (-v)) = fun _ => true := rfl
    rw [e2, hv_all]
    have : max (-1 : Int) (2 ^ ((folk.map fun v => -v).reverse.filter fun v => decide (-w < v)).length - 1 - 2 ^ ((folk.map fun v => -v).reverse.filter fun v => decide (-w < v)).length) = -1 := by omega
    rw [this]
    rfl
theorem Run.new (f : Fk folk) (h : Run d (folk :: List.replicate d []) (List.replicate d 0) ps R D) (h0 : Hou folk d (folk :: List.replicate d []) (List.replicate d 0)) {v : Int} (hv : v ∈ folk) {j : Nat} (hj : j < d) :
    ((ps.count (v, (j : Int) + 1) : Nat) : Int) ≤ 2 * 2 ^ (folk.filter fun u => decide (v < u)).length - 1 ∧ ((ps.count (v, (j : Int) + 1) : Nat) : Int) ≤ 2 * 2 ^ (folk.filter fun u => decide (u < v)).length := by
  have hc := h.cnt f h0 v hj
  have ez : (List.replicate d (0 : Int)).getD j 0 = 0 := by rw [List.getD_eq_getElem?_getD, List.getElem?_replicate]; split <;> rfl
  have hb := f.bd v hv
  obtain ⟨n1, n2⟩ := new_psi f (p := bey (folk :: List.replicate d []) j) (fun u => new_bey) (w := v) (by omega)
  rw [ez, n1, n2] at hc
  have h1 := psi_hi folk (bey R j) (D.getD j 0) v
  have h2 := psiN_hi folk (bey R j) (D.getD j 0) v
  omega
/-- all together -/
theorem Run.sum (f : Fk folk) (h0 : Hou folk d R0 D0) (h : Run d R0 D0 ps R D) : (ps.length : Int) ≤ ((List.range d).map fun k : Nat => (folk.map fun w => ((ps.count (w, (k : Int) + 1) : Nat) : Int)).sum).sum := by
  induction h with
  | nil => exact sumN_0 fun k _ => sumI_0 fun w _ => by omega
  | @snoc ps R D w k h hk l ih =>
    have hh := h.hou f h0
    have hw := l.mem hh hk
    rw [List.length_append, List.length_singleton]
    have := sumN_step1 (f := fun k : Nat => (folk.map fun w => ((ps.count (w, (k : Int) + 1) : Nat) : Int)).sum) (g := fun j : Nat => (folk.map fun v => (((ps ++ [(w, (k : Int) + 1)]).count (v, (j : Int) + 1) : Nat) : Int)).sum) (u := k) (F := List.range d) (List.mem_range.mpr hk) fun j hj => by
      by_cases e : k = j
      · subst e
        rw [if_pos rfl]
        refine sum_step1 hw fun v hv => ?_
        rw [count_snoc]
        by_cases e : w = v
        · simp [e]
        · simp [e]
      · rw [if_neg e, Int.add_zero]
        exact sum_step fun v hv => by rw [count_snoc]; simp [e]
    omega
/-- the weights by one door -/
def bookL (ps : List (Int × Int)) (z : Int) : List Int := (ps.filter fun p => decide (p.2 = z)).map (·.1)
theorem bookL_app {qs : List (Int × Int)} {z : Int} : bookL (ps ++ qs) z = bookL ps z ++ bookL qs z := by simp [bookL]
theorem bookL_cnt {z w : Int} : ∀ {ps : List (Int × Int)}, (bookL ps z).count w = ps.count (w, z)
  | [] => rfl
  | (a, b) :: ps => by
    have ih := bookL_cnt (z := z) (w := w) (ps := ps)
    unfold bookL at ih ⊢
    by_cases c : b = z
    · subst c
      simp only [List.filter_cons, decide_true, if_true, List.map_cons, List.count_cons, ih]
      congr 1
      by_cases e : a = w
      · subst e; simp
      · simp [e]
    · simp only [List.filter_cons, c, decide_false, Bool.false_eq_true, if_false, List.count_cons, ih]
      simp [c]
theorem bookL_len {z : Int} : (bookL ps z).length ≤ ps.length := by
  unfold bookL
  rw [List.length_map]
  exact List.length_filter_le _ _
theorem endP_app {p : Int → Bool} {L G : List Int} : endP p (L ++ G) = endP (endP p L) G := by unfold endP; rw [List.foldl_append]
theorem endM_app {m : Int} {L G : List Int} : endM m (L ++ G) = endM (endM m L) G := by unfold endM; rw [List.foldl_append]
theorem Run.book (f : Fk folk) (h0 : Hou folk d R0 D0) (h : Run d R0 D0 ps R D) {j : Nat} (hj : j < d) :
    okRun (bey R0 j) (D0.getD j 0) (bookL ps ((j : Int) + 1)) ∧ endP (bey R0 j) (bookL ps ((j : Int) + 1)) = bey R j ∧ endM (D0.getD j 0) (bookL ps ((j : Int) + 1)) = D.getD j 0 := by
  induction h with
  | nil => exact ⟨trivial, rfl, rfl⟩
  | @snoc ps R D w k h hk l ih =>
    have hh := h.hou f h0
    have hld := hh.ld
    obtain ⟨i1, i2, i3⟩ := ih
    rw [bookL_app, set_getD (by omega)]
    by_cases e : j = k
    · subst e
      have e1 : bookL [(w, (j : Int) + 1)] ((j : Int) + 1) = [w] := by simp [bookL]
      have s := bey_step f hh hk l
      rw [e1, if_pos rfl]
      refine ⟨okRun_app i1 ⟨?_, trivial⟩, ?_, ?_⟩
      · rw [i2, i3]
        rcases s.go with ⟨h1, _, h3⟩ | ⟨h1, _, h3⟩
        · exact .inl ⟨h1, h3⟩
        · exact .inr ⟨h1, h3⟩
      · rw [endP_app, i2]
        funext v
        show flp (bey R j) w v = _
        unfold flp
        by_cases c : v = w
        · subst c
          rw [if_pos rfl]
          rcases s.go with ⟨h1, h2, h3⟩ | ⟨h1, h2, h3⟩
          · rw [h1, h2]; rfl
          · rw [h1, h2]; rfl
        · rw [if_neg c, s.oth v c]
      · rw [endM_app]; rfl
    · have e1 : bookL [(w, (k : Int) + 1)] ((j : Int) + 1) = [] := by
        have : ¬ (k : Int) = (j : Int) := fun c => e (by omega)
        simp [bookL, this]
      rw [e1, List.append_nil, if_neg e, bey_other hh hk l e]
      exact ⟨i1, i2, i3⟩
/-- ranks in a rising list -/
theorem rank_of : ∀ {F : List Int} {i : Nat} {w : Int}, F.Pairwise (· < ·) → F[i]? = some w → (F.filter fun v => decide (v < w)).length = i ∧ (F.filter fun v => decide (w < v)).length = F.length - 1 - i
  | [], i, w, _, h => by simp at h
  | a :: F, i, w, hs, h => by
    obtain ⟨h1, h2⟩ := List.pairwise_cons.mp hs
    cases i with
    | zero =>
      simp only [List.getElem?_cons_zero, Option.some.injEq] at h
      subst h
      have e1 : (F.filter fun v => decide (a < v)) = F := List.filter_eq_self.mpr fun v hv => by simpa using h1 v hv
      have e2 : (F.filter fun v => decide (v < a)) = [] := List.filter_eq_nil_iff.mpr fun v hv => by have := h1 v hv; simp; omega
      simp [List.filter_cons, e1, e2]
    | succ i =>
      rw [List.getElem?_cons_succ] at h
      have hw := List.mem_of_getElem? h
      obtain ⟨g1, g2⟩ := rank_of h2 h
      have h3 := h1 w hw
      have hi := (List.getElem?_eq_some_iff.mp h).1
      have e1 : ((a :: F).filter fun v => decide (v < w)) = a :: F.filter fun v => decide (v < w) := by rw [List.filter_cons, if_pos (by simpa using h3)]
      have e2 : ((a :: F).filter fun v => decide (w < v)) = F.filter fun v => decide (w < v) := by rw [List.filter_cons, if_neg (by simp; omega)]
      rw [e1, e2, List.length_cons, List.length_cons, g1, g2]
      exact ⟨rfl, by omega⟩
theorem map_rank {F : List Int} (hs : F.Pairwise (· < ·)) (g : Int → Int) (q : Nat → Int) (h : ∀ i w, F[i]? = some w → g w = q i) : F.map g = (List.range F.length).map q := by
  apply List.ext_getElem?
  intro i
  rw [List.getElem?_map, List.getElem?_map]
  cases e : F[i]? with
  | none =>
    have : F.length ≤ i := by simpa using e
    rw [List.getElem?_eq_none (by rw [List.length_range]; exact this)]
    rfl
  | some w =>
    have := (List.getElem?_eq_some_iff.mp e).1
    rw [List.getElem?_range this]
    simp [h i w e]
theorem sum_const {d : Nat} {c : Int} {f : Nat → Int} (h : ∀ k, k < d → f k ≤ c) : ((List.range d).map f).sum ≤ d * c := by
  have := sumN_hi (F := List.range d) (f := f) (c := c) fun k hk => h k (List.mem_range.mp hk)
  rw [List.length_range] at this
  exact this
end
@[simp] theorem wZ_pr {Q : Ev → Prop} {ag : List Ag} {r : Ev} {p : Int × Int} : wZ (pr p) ag r Q = Q r := id rfl
@[simp] theorem wZ_hs {Q : Ev → Prop} {ag : List Ag} {r : Ev} {R : List (List Int)} {D : List Int} : wZ (hs R D) ag r Q = Q r := by
  unfold wZ
  rw [flat_hs, if_pos rfl]
section
variable {folk : List Int} {d : Nat} {R0 R R' : List (List Int)} {D0 D D' : List Int} {ps : List (Int × Int)}
theorem Run.last {q : Int × Int} (h : Run d R0 D0 (ps ++ [q]) R D) : ∃ (R1 : List (List Int)) (D1 : List Int) (w : Int) (k : Nat), Run d R0 D0 ps R1 D1 ∧ k < d ∧ Let R1 D1 w k ∧ q = (w, (k : Int) + 1) ∧ R = behR R1 w k ∧ D = D1.set k w := by
  generalize e : ps ++ [q] = qs at h
  cases h with
  | nil => simp at e
  | @snoc ps' R1 D1 w k h hk l =>
    obtain ⟨e1, e2⟩ := List.append_inj' e rfl
    subst e1
    cases e2
    exact ⟨R1, D1, w, k, h, hk, l, rfl, rfl, rfl⟩
theorem Run.det (h : Run d R0 D0 ps R D) : Run d R0 D0 ps R' D' → R = R' ∧ D = D' := by
  induction h generalizing R' D' with
  | nil =>
    intro h2
    generalize e : ([] : List (Int × Int)) = qs at h2
    cases h2 with
    | nil => exact ⟨rfl, rfl⟩
    | snoc _ _ _ => simp at e
  | snoc h hk l ih =>
    intro h2
    obtain ⟨R1, D1, w', k', h3, _, _, e, rfl, rfl⟩ := h2.last
    obtain ⟨rfl, rfl⟩ := ih h3
    obtain ⟨rfl, rfl⟩ := pair_ne.mp e
    exact ⟨rfl, rfl⟩
theorem Run.at_ (h : Run d R0 D0 ps R D) : ∀ {k : Nat} {q : Int × Int}, ps[k]? = some q → ∃ (R1 : List (List Int)) (D1 : List Int) (w : Int) (j : Nat), Run d R0 D0 (ps.take k) R1 D1 ∧ j < d ∧ Let R1 D1 w j ∧ q = (w, (j : Int) + 1) := by
  induction h with
  | nil => intro k q h; simp at h
  | @snoc ps R1 D1 w j h hj l ih =>
    intro k q hq
    by_cases c : k < ps.length
    · rw [List.getElem?_append_left c] at hq
      obtain ⟨R2, D2, w2, j2, g1, g2, g3, g4⟩ := ih hq
      exact ⟨R2, D2, w2, j2, by rw [List.take_append_of_le_length (by omega)]; exact g1, g2, g3, g4⟩
    · have e : k = ps.length := by
        have := (List.getElem?_eq_some_iff.mp hq).1
        rw [List.length_append, List.length_singleton] at this
        omega
      subst e
      rw [List.getElem?_append_right (Nat.le_refl _), Nat.sub_self] at hq
      cases hq
      exact ⟨R1, D1, w, j, by rw [List.take_left']; exact h; rfl, hj, l, rfl⟩
theorem Let.step (h : Hou folk d R D) {w : Int} {k : Nat} (hk : k < d) (l : Let R D w k) : (w, (k : Int) + 1) ∈ steps R D := by
  refine mem_steps.mpr ⟨k, by rw [h.ld]; exact hk, rfl, ?_⟩
  rcases l with l | ⟨_, l⟩
  · exact .inl l
  · exact .inr l
end
theorem cutD_but1 {xs : List Dt} : cutD xs none (some (-1)) = xs.dropLast := by
  unfold cutD
  have e : HT.sIx xs.length xs.length (some (-1)) = xs.length - 1 := by
    show (if (-1 : Int) < 0 then ((-1 : Int) + (xs.length : Int)).toNat else min (-1 : Int).toNat xs.length) = xs.length - 1
    rw [if_pos (by decide)]
    omega
  rw [e, HT.sIx_none, List.drop_zero, Nat.sub_zero, List.dropLast_eq_take]
end Y
/-! W, part H: rules for objects of own classes, divmod, list(range(..)). -/
namespace Y
open PySem L2 PyProof.Rows
section
variable {c f m : Str} {r r1 r2 : Ev} {x y : Dt} {xs ys : List Dt} {ns : List Str} {fs : List Dt} {w : List IR}
def isO1 (c m : Str) : List Dt → Bool
  | [x] => isO c m x
  | _ => false
@[simp] theorem wE_Me {fn : Fn} {A : Am} {as : List Am} {Q : Vl → Ev → Prop} : wE (mMe c m fn A as) r Q = (wA [A] r (fun ys r1 => wL (look r1 ys) fun xs => isO1 c m xs = true) ∧ wE (mC fn (A :: as)) r Q) := by
  unfold wE wA wL
  simp only [mMe]
  cases h1 : evA [A] r with
  | no => simp
  | ex c fs r1 => simp
  | ok ys r1 =>
    simp only
    cases h2 : look r1 ys with
    | none => simp
    | some xs =>
      match xs with
      | [] => simp [isO1]
      | [x] =>
        simp only [isO1]
        by_cases h : isO c m x = true
        · simp [h]
        · simp [h]
      | x :: y :: z => simp [isO1]
def wTl (r1 : Ev) (k : Ev → Prop) : Prop := match r1 with
  | some (_, .c) :: r2 => k r2
  | _ => False
@[simp] theorem wTl_c {k : Ev → Prop} : wTl (some (x, .c) :: r2) k = k r2 := id rfl
def wR (c : Str) (w : List IR) (r : Ev) (ns : List Str) (fs : List Dt) (Q : List Str → List Dt → Prop) : Prop := match iRun c w r ns fs with
  | some (ns, fs) => Q ns fs
  | none => False
@[simp] theorem wFn_fnMk {pad : Nat} {vs : List Vl} {Q : Vl → Vl → Prop} : wFn (fnMk c pad w) vs Q = wR c w (vs.map some ++ List.replicate pad none) [] [] fun ns fs => Q (.o c ns fs, .c) (.n, .c) := by
  unfold wFn wR
  simp only [fnMk]
  cases iRun c w (vs.map some ++ List.replicate pad none) [] [] <;> rfl
@[simp] theorem wR_nil {Q : List Str → List Dt → Prop} : wR c [] r ns fs Q = Q ns fs := id rfl
@[simp] theorem wR_fld {g : Ev → Ou Vl} {Q : List Str → List Dt → Prop} : wR c (.fld f g :: w) r ns fs Q = wE g (some (.o c ns fs, .c) :: r) fun x r1 => wTl r1 fun r2 => nob x.1 = true ∧ nobE r2 = true ∧ ns.contains f = false ∧ ns.length < 900 ∧ wR c w r2 (ns ++ [f]) (fs ++ [x.1]) Q := by
  unfold wR wE wTl
  simp only [iRun]
  cases hg : g (some (.o c ns fs, .c) :: r) with
  | no => simp
  | ex c fs r1 => simp
  | ok xm r1 =>
    obtain ⟨x, mm⟩ := xm
    simp only
    match r1 with
    | [] => rfl
    | none :: r2 => rfl
    | some (y, .t) :: r2 => rfl
    | some (y, .a) :: r2 => rfl
    | some (y, .c) :: r2 =>
      simp only
      by_cases h : (nob x && nobE r2 && !ns.contains f && decide (ns.length < 900)) = true
      · rw [if_pos h]
        simp only [Bool.and_eq_true, Bool.not_eq_true', decide_eq_true_eq] at h
        simp only [h.1.1.1, h.1.1.2, h.1.2, h.2, true_and]
      · rw [if_neg h]
        refine propext ⟨fun z => z.elim, fun ⟨h1, h2, h3, h4, _⟩ => h ?_⟩
        simp only [h1, h2, h3, h4, decide_true, Bool.and_true, Bool.not_false]
@[simp] theorem wR_st {s : Ev → So} {Q : List Str → List Dt → Prop} : wR c (.st s :: w) r ns fs Q = wS s (some (.o c ns fs, .c) :: r) (fun r1 => wTl r1 fun r2 => nobE r2 = true ∧ wR c w r2 ns fs Q) (fun _ _ => False) (fun _ => False) (fun _ => False) := by
  unfold wR wS wTl
  simp only [iRun]
  cases hs : s (some (.o c ns fs, .c) :: r) with
  | nx r1 =>
    simp only
    match r1 with
    | [] => rfl
    | none :: r2 => rfl
    | some (y, .t) :: r2 => rfl
    | some (y, .a) :: r2 => rfl
    | some (y, .c) :: r2 =>
      simp only
      by_cases h : nobE r2 = true
      · simp [h]
      · simp [h]
  | rt x r1 => simp
  | bk r1 => simp
  | ct r1 => simp
  | ex c fs r1 => simp
  | no => simp
@[simp] theorem wS_forH {fs : List (Ev → Ou Vl)} {t : Vl → Ev → Option Ev} {body : Ev → So} {Qn : Ev → Prop} {Qr : Vl → Ev → Prop} {Qb Qc : Ev → Prop} : wS (sForH fs t body) r Qn Qr Qb Qc = wH fs r fun vs r1 => vs.length ≤ LIM ∧ wS (forH t body vs) r1 Qn Qr Qb Qc := by
  unfold wH
  cases h : evH fs r with
  | no => unfold wS; simp only [sForH, h]
  | ex c fs r1 => unfold wS; simp only [sForH, h]
  | ok vs r1 =>
    by_cases hl : vs.length ≤ LIM
    · have e : sForH fs t body r = forH t body vs r1 := by simp only [sForH, h]; exact if_pos hl
      unfold wS
      rw [e]
      simp only [hl, true_and]
    · have e : sForH fs t body r = .no := by simp only [sForH, h]; exact if_neg hl
      unfold wS
      rw [e]
      simp only [hl, false_and]
theorem wS_forH0 {t : Vl → Ev → Option Ev} {body : Ev → So} {Qn : Ev → Prop} {Qr : Vl → Ev → Prop} {Qb Qc : Ev → Prop} : wS (forH t body []) r Qn Qr Qb Qc = Qn r := id rfl
theorem wS_forHc {v : Vl} {vs : List Vl} {t : Vl → Ev → Option Ev} {body : Ev → So} {Qn : Ev → Prop} {Qr : Vl → Ev → Prop} {Qb Qc : Ev → Prop} : wS (forH t body (v :: vs)) r Qn Qr Qb Qc = wK (t v r) fun r1 => wS body r1 (fun r2 => wS (forH t body vs) r2 Qn Qr Qb Qc) Qr Qn (fun r2 => wS (forH t body vs) r2 Qn Qr Qb Qc) := by
  unfold wK
  cases h : t v r with
  | none => unfold wS; simp only [forH, h]
  | some r1 =>
    unfold wS
    simp only [forH, h]
    cases body r1 <;> rfl
theorem fld_eq (h : (ns.zip fs).lookup f = some x) : fFld c f [.o c ns fs] = some (x, .c) := by
  show (if c = c then ((ns.zip fs).lookup f).map (fun x => (x, Md.c)) else none) = _
  rw [if_pos rfl, h]
  rfl
@[simp] theorem wO_divmod {a b : Int} {Q : Dt → Md → Prop} : wO (fDivmod [.i a, .i b]) Q = (0 < b ∧ b < 1073741824 ∧ Q (.t [.i (a / b), .i (a % b)]) .c) := by
  show wO (if (decide (0 < b) && decide (b < 1073741824)) = true then some (.t [.i (a / b), .i (a % b)], .c) else none) Q = _
  by_cases h : (decide (0 < b) && decide (b < 1073741824)) = true
  · rw [if_pos h]
    simp only [Bool.and_eq_true, decide_eq_true_eq] at h
    simp only [wO_some, h.1, h.2, true_and]
  · rw [if_neg h]
    refine propext ⟨fun z => z.elim, fun ⟨h1, h2, _⟩ => h ?_⟩
    simp only [h1, h2, decide_true, Bool.and_true]
@[simp] theorem wO_lrg {i j : Int} {Q : Dt → Md → Prop} : wO (fLrg [.i i, .i j, .i (-1)]) Q = (-(2 ^ 60) ≤ i ∧ i ≤ 2 ^ 60 ∧ -(2 ^ 60) ≤ j ∧ j ≤ 2 ^ 60 ∧ i - j ≤ LIM ∧ Q (.l (rngC i (-1) (i - j).toNat)) .t) := by
  show wO (if (-1 : Int) = -1 ∧ -(2 ^ 60) ≤ i ∧ i ≤ 2 ^ 60 ∧ -(2 ^ 60) ≤ j ∧ j ≤ 2 ^ 60 ∧ i - j ≤ LIM then some (.l (rngC i (-1) (i - j).toNat), .t) else none) Q = _
  by_cases h : (-1 : Int) = -1 ∧ -(2 ^ 60) ≤ i ∧ i ≤ 2 ^ 60 ∧ -(2 ^ 60) ≤ j ∧ j ≤ 2 ^ 60 ∧ i - j ≤ LIM
  · rw [if_pos h]
    exact propext ⟨fun q => ⟨h.2.1, h.2.2.1, h.2.2.2.1, h.2.2.2.2.1, h.2.2.2.2.2, q⟩, fun q => q.2.2.2.2.2⟩
  · rw [if_neg h]
    exact propext ⟨fun z => z.elim, fun q => h ⟨rfl, q.1, q.2.1, q.2.2.1, q.2.2.2.1, q.2.2.2.2.1⟩⟩
@[simp] theorem nobL_i (ns : List Int) : nobL (ns.map .i) = true := by
  induction ns with
  | nil => rfl
  | cons n ns ih =>
    show (nob (.i _) && nobL (ns.map .i)) = true
    rw [ih]
    rfl
@[simp] theorem nobL_rm (R : List (List Int)) : nobL (R.map rm) = true := by
  induction R with
  | nil => rfl
  | cons n ns ih =>
    show (nob (rm n) && nobL (ns.map rm)) = true
    rw [ih]
    show (nobL (n.map .i) && true) = true
    rw [nobL_i]
    rfl
@[simp] theorem nobL_lm (R : List (List Int)) : nobL (R.map lm) = true := by
  induction R with
  | nil => rfl
  | cons n ns ih =>
    show (nob (lm n) && nobL (ns.map lm)) = true
    rw [ih]
    show (nobL (n.map .i) && true) = true
    rw [nobL_i]
    rfl
@[simp] theorem nob_t : nob (.t xs) = nobL xs := id rfl
@[simp] theorem nob_l : nob (.l xs) = nobL xs := id rfl
@[simp] theorem nob_z : nob (.z xs) = nobL xs := id rfl
@[simp] theorem nob_i {a : Int} : nob (.i a) = true := id rfl
@[simp] theorem nob_b {a : Bool} : nob (.b a) = true := id rfl
@[simp] theorem nob_s {a : Str} : nob (.s a) = true := id rfl
@[simp] theorem nob_n : nob .n = true := id rfl
@[simp] theorem nobL_0 : nobL [] = true := id rfl
@[simp] theorem nobL_c : nobL (x :: xs) = (nob x && nobL xs) := id rfl
@[simp] theorem nobE_n : nobE (none :: r) = nobE r := id rfl
@[simp] theorem nobE_c {mm : Md} : nobE (some (x, mm) :: r) = (nob x && nobE r) := id rfl
@[simp] theorem nobE_0 : nobE [] = true := id rfl
@[simp] theorem con_0 : ([] : List Str).contains f = false := id rfl
end
end Y
/-! W, part I: a task of one door: bars, the row. -/
namespace Y
open PySem L2 PyProof.Rows
def entL (here wish : List Int) : List Int := here.filter fun w => decide (w ∈ wish)
def lvL (there wish : List Int) : List Int := there.filter fun w => !decide (w ∈ wish)
def lowB (m : Int) (e l : List Int) (w : Int) : Bool := decide (w ∈ e) && !((l ++ [m]).any fun v => decide (v < w))
def highB (m : Int) (e l : List Int) (w : Int) : Bool := decide (w ∈ l) && !((e ++ [m]).any fun v => decide (v > w))
def barD (m : Int) (e l : List Int) : Dt :=
  if e ≠ [] ∧ lowB m e l (e.headD 0) = true then .t [.s "low", .i (e.headD 0)] else if l ≠ [] ∧ highB m e l (l.getLastD 0) = true then .t [.s "high", .i (l.getLastD 0)] else .n
def rowL (m : Int) (e l : List Int) : List Int := if l = [] then e.filter fun w => decide (w > m) else (e.filter fun w => decide (w > m)) ++ l.reverse ++ e.filter fun w => !decide (w ∈ e.filter fun w => decide (w > m))
def lowsL (m : Int) (e l : List Int) : List Int := e.filter fun w => decide (m ≥ w) && decide ((l.filter fun v => decide (v < w)) = [])
def highsL (m : Int) (e l : List Int) : List Int := l.filter fun w => decide (m ≤ w) && decide ((e.filter fun v => decide (v > w)) = [])
/-- no bar -/
def NB (m : Int) (e l : List Int) : Prop := (∀ w ∈ e, ¬ (w ≤ m ∧ ∀ v ∈ l, ¬ v < w)) ∧ ∀ w ∈ l, ¬ (m ≤ w ∧ ∀ v ∈ e, ¬ v > w)
theorem nb_lists {m : Int} {e l : List Int} : (lowsL m e l = [] ∧ highsL m e l = []) ↔ NB m e l := by
  simp only [lowsL, highsL, NB, List.filter_eq_nil_iff, Bool.and_eq_true, decide_eq_true_eq]

theorem lastD_c {w m : Int} {ws : List Int} : (w :: ws).getLastD m = ws.getLastD w := by
  cases ws <;> rfl
theorem len_parts (p : Int → Bool) : ∀ e : List Int, (e.filter p).length + (e.filter fun w => !p w).length = e.length
  | [] => rfl
  | w :: e => by
    have := len_parts p e
    cases h : p w <;> simp only [List.filter_cons, h, Bool.not_true, Bool.not_false, if_true, Bool.false_eq_true, if_false, List.length_cons] <;> omega
theorem head_le {e : List Int} (h : e.Pairwise (· < ·)) {w : Int} (hw : w ∈ e) : e ≠ [] ∧ e.headD 0 ≤ w ∧ e.headD 0 ∈ e := by
  cases e with
  | nil => cases hw
  | cons a t =>
    refine ⟨by simp, ?_, by simp⟩
    rcases List.mem_cons.mp hw with rfl | hw
    · simp
    · have := (List.pairwise_cons.mp h).1 w hw
      simp only [List.headD_cons]
      omega
theorem lastE_ge {e : List Int} (h : e.Pairwise (· < ·)) {w : Int} (hw : w ∈ e) : e ≠ [] ∧ w ≤ e.getLastD 0 ∧ e.getLastD 0 ∈ e := by
  rcases List.eq_nil_or_concat e with rfl | ⟨t, z, rfl⟩
  · cases hw
  · rw [List.concat_eq_append] at h hw ⊢
    have e1 : (t ++ [z]).getLastD 0 = z := by simp [List.getLastD_eq_getLast?]
    rw [e1]
    refine ⟨by simp, ?_, by simp⟩
    rcases List.mem_append.mp hw with hw | hw
    · have := (List.pairwise_append.mp h).2.2 w hw z (by simp)
      omega
    · rw [List.mem_singleton.mp hw]
      omega
theorem low_iff {m w : Int} {e l : List Int} : lowB m e l w = true ↔ w ∈ e ∧ w ≤ m ∧ ∀ v ∈ l, ¬ v < w := by
  simp only [lowB, Bool.and_eq_true, decide_eq_true_eq, Bool.not_eq_true', List.any_eq_false, List.mem_append, List.mem_singleton]
  constructor
  · rintro ⟨h1, h2⟩
    have := h2 m (.inr rfl)
    exact ⟨h1, by omega, fun v hv => h2 v (.inl hv)⟩
  · rintro ⟨h1, h2, h3⟩
    exact ⟨h1, fun v hv => hv.elim (h3 v) fun q => by omega⟩
theorem high_iff {m w : Int} {e l : List Int} : highB m e l w = true ↔ w ∈ l ∧ m ≤ w ∧ ∀ v ∈ e, ¬ v > w := by
  simp only [highB, Bool.and_eq_true, decide_eq_true_eq, Bool.not_eq_true', List.any_eq_false, List.mem_append, List.mem_singleton]
  constructor
  · rintro ⟨h1, h2⟩
    have := h2 m (.inr rfl)
    exact ⟨h1, by omega, fun v hv => h2 v (.inl hv)⟩
  · rintro ⟨h1, h2, h3⟩
    exact ⟨h1, fun v hv => hv.elim (h3 v) fun q => by omega⟩
theorem nb_iff {m : Int} {e l : List Int} (he : e.Pairwise (· < ·)) (hl : l.Pairwise (· < ·)) : isn (barD m e l) = true ↔ NB m e l := by
  unfold barD
  split
  · rename_i h
    obtain ⟨h1, h2, h3⟩ := low_iff.mp h.2
    exact ⟨fun z => (nomatch z), fun z => absurd ⟨h2, h3⟩ (z.1 _ h1)⟩
  · rename_i h
    split
    · rename_i k
      obtain ⟨h1, h2, h3⟩ := high_iff.mp k.2
      exact ⟨fun z => (nomatch z), fun z => absurd ⟨h2, h3⟩ (z.2 _ h1)⟩
    · rename_i k
      refine ⟨fun _ => ⟨fun w hw c => h ?_, fun w hw c => k ?_⟩, fun _ => rfl⟩
      · obtain ⟨h1, h2, h3⟩ := head_le he hw
        exact ⟨h1, low_iff.mpr ⟨h3, by omega, fun v hv q => c.2 v hv (by omega)⟩⟩
      · obtain ⟨h1, h2, h3⟩ := lastE_ge hl hw
        exact ⟨h1, high_iff.mpr ⟨h3, by omega, fun v hv q => c.2 v hv (by omega)⟩⟩
theorem wO_ninP {ps : List (Int × Int)} {q : Int × Int} {Q : Dt → Md → Prop} (h : ps.length ≤ LIM) : wO (fInA true [pr q, .l (ps.map pr)]) Q = Q (.b (!decide (q ∈ ps))) .c := by
  have e1 : shp (.l (ps.map pr)) = true := pl_shp (d := 3) (pl_pr (d := 0) h) (by omega)
  have e2 : shp (.t (ps.map pr)) = true := pl_shp (d := 3) (by have := pl_pr (d := 0) h; simpa [pl] using this) (by omega)
  have e3 : shp (pr q) = true := shp_ti [q.1, q.2]
  have e4 : (ps.map pr).any (fun z => eqD z (pr q)) = decide (q ∈ ps) := by
    rw [List.any_map, Bool.eq_iff_iff]
    simp only [List.any_eq_true, Function.comp, eqD_pr, decide_eq_true_eq, exists_eq_right]
  show wO (if (shp (pr q) && shp (.l (ps.map pr)) && shp (.t (ps.map pr))) = true then some (.b (inL true (pr q) (ps.map pr)), .c) else none) Q = _
  rw [e1, e2, e3]
  show Q (.b (inL true (pr q) (ps.map pr))) .c = _
  have e5 : inL true (pr q) (ps.map pr) = !((ps.map pr).any fun z => eqD z (pr q)) := rfl
  rw [e5, e4]
/-! ### the row is let -/
section
variable {folk : List Int} {R0 : List (List Int)} {D0 : List Int}
theorem beh_in {A B : List Int} {w : Int} (h : w ∈ A) : behR [A, B] w 0 = [A.filter fun v => decide (v ≠ w), isrt (B ++ [w])] := by
  simp [behR, h]
theorem beh_out {A B : List Int} {w : Int} (h : ¬ w ∈ A) : behR [A, B] w 0 = [isrt (A ++ [w]), B.filter fun v => decide (v ≠ w)] := by
  simp [behR, h]
theorem mem_isrt {w : Int} {A : List Int} : w ∈ isrt A ↔ w ∈ A := (isrt_perm A).mem_iff
theorem run_in : ∀ (ws A B : List Int) (m : Int) (ps : List (Int × Int)), Run 1 R0 D0 ps [A, B] [m] → (m :: ws).Pairwise (· < ·) → (∀ w ∈ ws, w ∈ A) →
    ∃ A' B', Run 1 R0 D0 (ps ++ ws.map fun w => (w, (1 : Int))) [A', B'] [ws.getLastD m] ∧ (∀ v, v ∈ B' ↔ v ∈ B ∨ v ∈ ws) ∧ ∀ v, v ∈ A' ↔ v ∈ A ∧ ¬ v ∈ ws
  | [], A, B, m, ps, h, _, _ => ⟨A, B, by simpa using h, by simp, by simp⟩
  | w :: ws, A, B, m, ps, h, hp, hA => by
    have h1 := List.pairwise_cons.mp hp
    have hw := hA w (by simp)
    have s := h.snoc (k := 0) (w := w) (by decide) (.inl ⟨hw, h1.1 w (by simp)⟩)
    rw [beh_in hw] at s
    have h2 := List.pairwise_cons.mp h1.2
    obtain ⟨A', B', r1, r2, r3⟩ := run_in ws _ _ w _ s h1.2 fun v hv => by
      have := h2.1 v hv
      simp only [List.mem_filter, decide_eq_true_eq]
      exact ⟨hA v (by simp [hv]), by omega⟩
    refine ⟨A', B', ?_, fun v => ?_, fun v => ?_⟩
    · have e1 : (w :: ws).getLastD m = ws.getLastD w := lastD_c
      rw [e1]
      have e2 : ps ++ (w :: ws).map (fun w => (w, (1 : Int))) = (ps ++ [(w, ((0 : Nat) : Int) + 1)]) ++ ws.map fun w => (w, (1 : Int)) := by simp
      rw [e2]
      exact r1
    · rw [r2, mem_isrt]
      simp only [List.mem_append, List.mem_singleton, List.mem_cons, List.not_mem_nil, or_false, or_assoc]
    · rw [r3]
      simp only [List.mem_filter, decide_eq_true_eq, List.mem_cons, not_or, and_assoc, ne_eq]
theorem run_out : ∀ (ws A B : List Int) (m : Int) (ps : List (Int × Int)), Run 1 R0 D0 ps [A, B] [m] → (m :: ws).Pairwise (· > ·) → (∀ w ∈ ws, w ∈ B ∧ ¬ w ∈ A) →
    ∃ A' B', Run 1 R0 D0 (ps ++ ws.map fun w => (w, (1 : Int))) [A', B'] [ws.getLastD m] ∧ (∀ v, v ∈ A' ↔ v ∈ A ∨ v ∈ ws) ∧ ∀ v, v ∈ B' ↔ v ∈ B ∧ ¬ v ∈ ws
  | [], A, B, m, ps, h, _, _ => ⟨A, B, by simpa using h, by simp, by simp⟩
  | w :: ws, A, B, m, ps, h, hp, hA => by
    have h1 := List.pairwise_cons.mp hp
    obtain ⟨hw, hn⟩ := hA w (by simp)
    have s := h.snoc (k := 0) (w := w) (by decide) (.inr ⟨hn, hw, h1.1 w (by simp)⟩)
    rw [beh_out hn] at s
    have h2 := List.pairwise_cons.mp h1.2
    obtain ⟨A', B', r1, r2, r3⟩ := run_out ws _ _ w _ s h1.2 fun v hv => by
      have := h2.1 v hv
      obtain ⟨q1, q2⟩ := hA v (by simp [hv])
      simp only [List.mem_filter, decide_eq_true_eq, mem_isrt, List.mem_append, List.mem_singleton]
      exact ⟨⟨q1, by omega⟩, fun c => c.elim q2 fun c => by omega⟩
    refine ⟨A', B', ?_, fun v => ?_, fun v => ?_⟩
    · have e1 : (w :: ws).getLastD m = ws.getLastD w := lastD_c
      rw [e1]
      have e2 : ps ++ (w :: ws).map (fun w => (w, (1 : Int))) = (ps ++ [(w, ((0 : Nat) : Int) + 1)]) ++ ws.map fun w => (w, (1 : Int)) := by simp
      rw [e2]
      exact r1
    · rw [r2, mem_isrt]
      simp only [List.mem_append, List.mem_singleton, List.mem_cons, List.not_mem_nil, or_false, or_assoc]
    · rw [r3]
      simp only [List.mem_filter, decide_eq_true_eq, List.mem_cons, not_or, and_assoc, ne_eq]
theorem lastD_up : ∀ {ws : List Int} {m : Int}, (m :: ws).Pairwise (· < ·) → m ≤ ws.getLastD m ∧ ∀ v ∈ ws, v ≤ ws.getLastD m
  | [], m, _ => ⟨by simp, by simp⟩
  | w :: ws, m, h => by
    have h1 := List.pairwise_cons.mp h
    obtain ⟨q1, q2⟩ := lastD_up h1.2
    have := h1.1 w (by simp)
    have e1 : (w :: ws).getLastD m = ws.getLastD w := lastD_c
    rw [e1]
    refine ⟨by omega, fun v hv => ?_⟩
    rcases List.mem_cons.mp hv with rfl | hv
    · exact q1
    · exact q2 v hv
theorem lastD_dn : ∀ {ws : List Int} {m : Int}, (m :: ws).Pairwise (· > ·) → ws.getLastD m ≤ m ∧ ∀ v ∈ ws, ws.getLastD m ≤ v
  | [], m, _ => ⟨by simp, by simp⟩
  | w :: ws, m, h => by
    have h1 := List.pairwise_cons.mp h
    obtain ⟨q1, q2⟩ := lastD_dn h1.2
    have : m > w := h1.1 w (by simp)
    have e1 : (w :: ws).getLastD m = ws.getLastD w := lastD_c
    rw [e1]
    refine ⟨by omega, fun v hv => ?_⟩
    rcases List.mem_cons.mp hv with rfl | hv
    · exact q1
    · exact q2 v hv
theorem isrt_same {A B : List Int} (ha : A.Nodup) (hb : B.Nodup) (h : ∀ v, v ∈ A ↔ v ∈ B) : isrt A = isrt B :=
  isrt_eq ((isrt_perm B).trans ((List.perm_ext_iff_of_nodup hb ha).mpr fun v => (h v).symm)) (isrt_le B)
theorem row_run {here there wish : List Int} {m : Int} (f : Fk folk) (h : Hou folk 1 [here, there] [m]) (hs : ∀ w ∈ wish, w ∈ folk) (hn : wish.Nodup) (nb : NB m (entL here wish) (lvL there wish)) :
    (∃ A B m', Run 1 [here, there] [m] ((rowL m (entL here wish) (lvL there wish)).map fun w => (w, (1 : Int))) [A, B] [m'] ∧ isrt B = isrt wish) ∧ (rowL m (entL here wish) (lvL there wish)).length = (entL here wish).length + (lvL there wish).length := by
  have s1 : here.Pairwise (· < ·) := h.srt here (by simp)
  have s2 : there.Pairwise (· < ·) := h.srt there (by simp)
  have nd := h.perm.symm.nodup f.nd
  have dj : ∀ v, v ∈ here → ¬ v ∈ there := fun v a b => by
    simp only [List.flatten_cons, List.flatten_nil, List.append_nil] at nd
    exact (List.nodup_append.mp nd).2.2 v a v b rfl
  have cov : ∀ v, v ∈ wish → v ∈ here ∨ v ∈ there := fun v hv => by
    have := h.perm.mem_iff.mpr (hs v hv)
    simpa using this
  have me : ∀ v, v ∈ entL here wish ↔ v ∈ here ∧ v ∈ wish := fun v => by simp [entL]
  have ml : ∀ v, v ∈ lvL there wish ↔ v ∈ there ∧ ¬ v ∈ wish := fun v => by simp [lvL]
  have se : (entL here wish).Pairwise (· < ·) := s1.filter _
  have sl : (lvL there wish).Pairwise (· < ·) := s2.filter _
  have lenF : ((entL here wish).filter fun w => decide (w > m)).length + ((entL here wish).filter fun w => !decide (w ∈ (entL here wish).filter fun w => decide (w > m))).length = (entL here wish).length := by
    have e1 : ((entL here wish).filter fun w => !decide (w ∈ (entL here wish).filter fun w => decide (w > m))) = (entL here wish).filter fun w => !decide (w > m) := List.filter_congr fun w hw => by
      simp [hw]
    rw [e1]
    exact len_parts (fun w => decide (w > m)) _
  generalize hE : entL here wish = e at *
  generalize hL : lvL there wish = l at *
  have pF : (m :: e.filter fun w => decide (w > m)).Pairwise (· < ·) := List.pairwise_cons.mpr ⟨fun w hw => by simp at hw; exact hw.2, se.filter _⟩
  have mF : ∀ v, (v ∈ e.filter fun w => decide (w > m)) ↔ v ∈ e ∧ v > m := fun v => by simp
  have mS : ∀ v, (v ∈ e.filter fun w => !decide (w ∈ e.filter fun w => decide (w > m))) ↔ v ∈ e ∧ ¬ v > m := fun v => by
    simp only [List.mem_filter, Bool.not_eq_true', decide_eq_false_iff_not, decide_eq_true_eq, not_and]
    exact ⟨fun q => ⟨q.1, q.2 q.1⟩, fun q => ⟨q.1, fun _ => q.2⟩⟩
  have pS : (e.filter fun w => !decide (w ∈ e.filter fun w => decide (w > m))).Pairwise (· < ·) := se.filter _
  have lr : (rowL m e l).length = e.length + l.length := by
    unfold rowL
    split
    · rename_i hl
      subst hl
      have : (e.filter fun w => decide (w > m)) = e := List.filter_eq_self.mpr fun w hw => by
        have := nb.1 w hw
        simp only [List.not_mem_nil, false_implies, implies_true, and_true] at this
        exact decide_eq_true (by omega)
      rw [this]
      simp
    · simp only [List.length_append, List.length_reverse]
      omega
  refine ⟨?_, lr⟩
  obtain ⟨A1, B1, r1, b1, a1⟩ := run_in (R0 := [here, there]) (D0 := [m]) _ here there m [] .nil pF fun w hw => ((me w).mp ((mF w).mp hw).1).1
  obtain ⟨u1, u2⟩ := lastD_up pF
  have hl1 := r1.hou f h
  unfold rowL
  split
  · rename_i hl
    subst hl
    refine ⟨A1, B1, _, by simpa using r1, isrt_same ((hl1.srt B1 (by simp)).imp fun h => by omega) hn fun v => ?_⟩
    rw [b1, mF]
    constructor
    · rintro (hv | hv)
      · by_cases c : v ∈ wish
        · exact c
        · have := (ml v).mpr ⟨hv, c⟩
          cases this
      · exact ((me v).mp hv.1).2
    · intro hv
      rcases cov v hv with c | c
      · have he := (me v).mpr ⟨c, hv⟩
        have := nb.1 v he
        simp only [List.not_mem_nil, false_implies, implies_true, and_true] at this
        exact .inr ⟨he, by omega⟩
      · exact .inl c
  · rename_i hl
    have pl : (((e.filter fun w => decide (w > m)).getLastD m) :: l.reverse).Pairwise (· > ·) := by
      refine List.pairwise_cons.mpr ⟨fun z hz => ?_, by rw [List.pairwise_reverse]; exact sl⟩
      have hz := List.mem_reverse.mp hz
      by_cases c : z < m
      · omega
      · have := nb.2 z hz
        by_cases c2 : ∀ v ∈ e, ¬ v > z
        · exact absurd ⟨by omega, c2⟩ this
        · simp only [Classical.not_forall, Classical.not_not] at c2
          obtain ⟨v, hv, hvz⟩ := c2
          have := u2 v ((mF v).mpr ⟨hv, by omega⟩)
          omega
    obtain ⟨A2, B2, r2, a2, b2⟩ := run_out _ A1 B1 _ _ r1 pl fun w hw => by
      have hw := (ml w).mp (List.mem_reverse.mp hw)
      exact ⟨(b1 w).mpr (.inl hw.1), fun c => dj w ((a1 w).mp c).1 hw.1⟩
    obtain ⟨d1, d2⟩ := lastD_dn pl
    have pS2 : (l.reverse.getLastD ((e.filter fun w => decide (w > m)).getLastD m) :: e.filter fun w => !decide (w ∈ e.filter fun w => decide (w > m))).Pairwise (· < ·) := by
      refine List.pairwise_cons.mpr ⟨fun z hz => ?_, pS⟩
      obtain ⟨hz, hzm⟩ := (mS z).mp hz
      have := nb.1 z hz
      by_cases c2 : ∀ v ∈ l, ¬ v < z
      · exact absurd ⟨by omega, c2⟩ this
      · simp only [Classical.not_forall, Classical.not_not] at c2
        obtain ⟨v, hv, hvz⟩ := c2
        have := d2 v (List.mem_reverse.mpr hv)
        omega
    obtain ⟨A3, B3, r3, b3, a3⟩ := run_in _ A2 B2 _ _ r2 pS2 fun w hw => by
      obtain ⟨hw, hwm⟩ := (mS w).mp hw
      exact (a2 w).mpr (.inl ((a1 w).mpr ⟨((me w).mp hw).1, fun c => hwm ((mF w).mp c).2⟩))
    have hl3 := r3.hou f h
    refine ⟨A3, B3, _, by simpa [List.append_assoc] using r3, isrt_same ((hl3.srt B3 (by simp)).imp fun h => by omega) hn fun v => ?_⟩
    rw [b3, b2, b1, mF, mS, List.mem_reverse]
    constructor
    · rintro (⟨hv | hv, hvl⟩ | hv)
      · by_cases c : v ∈ wish
        · exact c
        · exact absurd ((ml v).mpr ⟨hv, c⟩) hvl
      · exact ((me v).mp hv.1).2
      · exact ((me v).mp hv.1).2
    · intro hv
      have hvl : ¬ v ∈ l := fun c => ((ml v).mp c).2 hv
      rcases cov v hv with c | c
      · have he := (me v).mpr ⟨c, hv⟩
        by_cases cm : v > m
        · exact .inl ⟨.inr ⟨he, cm⟩, hvl⟩
        · exact .inr ⟨he, cm⟩
      · exact .inl ⟨.inl c, hvl⟩
end
end Y
/-! W, part J: one door of a house of several: by how few goings. -/
namespace Y
open PySem L2 PyProof.Rows
theorem flp_at (p : Int → Bool) (w : Int) : flp p w w = !p w := by simp [flp]
theorem flp_ne (p : Int → Bool) {w v : Int} (h : v ≠ w) : flp p w v = p v := by simp [flp, h]
theorem endP_c (p : Int → Bool) (w : Int) (G : List Int) : endP p (w :: G) = endP (flp p w) G := rfl
theorem no_low : ∀ {G : List Int} {p : Int → Bool} {m : Int}, okRun p m G → ∀ w, p w = false → endP p G w = true → w ≤ m → (∀ v, v < w → p v = true → endP p G v = true) → False
  | [], p, m, _, w, h1, h2, _, _ => by
    have : endP p [] w = p w := rfl
    rw [this, h1] at h2
    cases h2
  | u :: G, p, m, hr, w, h1, h2, h3, h4 => by
    obtain ⟨hu, hr⟩ := hr
    rw [endP_c] at h2 h4
    rcases hu with ⟨hp, hm⟩ | ⟨hp, hm⟩
    · have hw : u ≠ w := by omega
      refine no_low hr w (by rw [flp_ne p (Ne.symm hw)]; exact h1) h2 (by omega) fun v hv hq => ?_
      have : v ≠ u := by omega
      rw [flp_ne p this] at hq
      exact h4 v hv hq
    · have hw : u ≠ w := fun c => by rw [c, h1] at hp; cases hp
      by_cases c : w < u
      · refine no_low hr w (by rw [flp_ne p (Ne.symm hw)]; exact h1) h2 (by omega) fun v hv hq => ?_
        have : v ≠ u := by omega
        rw [flp_ne p this] at hq
        exact h4 v hv hq
      · refine no_low hr u (by rw [flp_at, hp]; rfl) (h4 u (by omega) hp) (by omega) fun v hv hq => ?_
        rw [flp_ne p (by omega)] at hq
        exact h4 v (by omega) hq
theorem no_high : ∀ {G : List Int} {p : Int → Bool} {m : Int}, okRun p m G → ∀ w, p w = true → endP p G w = false → m ≤ w → (∀ v, v > w → p v = false → endP p G v = false) → False
  | [], p, m, _, w, h1, h2, _, _ => by
    have : endP p [] w = p w := rfl
    rw [this, h1] at h2
    cases h2
  | u :: G, p, m, hr, w, h1, h2, h3, h4 => by
    obtain ⟨hu, hr⟩ := hr
    rw [endP_c] at h2 h4
    rcases hu with ⟨hp, hm⟩ | ⟨hp, hm⟩
    · have hw : u ≠ w := fun c => by rw [c, h1] at hp; cases hp
      by_cases c : u < w
      · refine no_high hr w (by rw [flp_ne p (Ne.symm hw)]; exact h1) h2 (by omega) fun v hv hq => ?_
        have : v ≠ u := by omega
        rw [flp_ne p this] at hq
        exact h4 v hv hq
      · refine no_high hr u (by rw [flp_at, hp]; rfl) (h4 u (by omega) hp) (by omega) fun v hv hq => ?_
        rw [flp_ne p (by omega)] at hq
        exact h4 v (by omega) hq
    · have hw : u ≠ w := by omega
      refine no_high hr w (by rw [flp_ne p (Ne.symm hw)]; exact h1) h2 (by omega) fun v hv hq => ?_
      have : v ≠ u := by omega
      rw [flp_ne p this] at hq
      exact h4 v hv hq
theorem diff1 {f g : Int → Bool} {w : Int} : ∀ {F : List Int}, F.Nodup → w ∈ F → f w = !g w → (∀ v, v ≠ w → f v = g v) → (F.filter f).length = (F.filter g).length + 1 ∨ (F.filter g).length = (F.filter f).length + 1
  | [], _, h, _, _ => by simp at h
  | a :: F, nd, h, h1, h2 => by
    obtain ⟨n1, n2⟩ := List.nodup_cons.mp nd
    by_cases c : a = w
    · subst c
      have e : F.filter f = F.filter g := List.filter_congr fun v hv => h2 v fun c => n1 (by rw [← c]; exact hv)
      rw [List.filter_cons, List.filter_cons, e, h1]
      cases g a <;> simp
    · have hw : w ∈ F := (List.mem_cons.mp h).resolve_left fun e => c e.symm
      have := diff1 n2 hw h1 h2
      rw [List.filter_cons, List.filter_cons, h2 a c]
      cases g a <;> simp <;> omega
theorem len_run {F : List Int} (nd : F.Nodup) : ∀ {G : List Int} {p : Int → Bool}, (∀ w ∈ G, w ∈ F) → (F.filter fun w => p w != endP p G w).length ≤ G.length ∧ (F.filter fun w => p w != endP p G w).length % 2 = G.length % 2
  | [], p, _ => by
    have : (fun w : Int => p w != endP p [] w) = fun _ => false := by funext w; simp [endP]
    have e : F.filter (fun _ => false) = [] := List.filter_eq_nil_iff.mpr fun a _ => by simp
    rw [this, e]
    simp
  | u :: G, p, h => by
    obtain ⟨h1, h2⟩ := len_run nd (G := G) (p := flp p u) fun w hw => h w (List.mem_cons_of_mem _ hw)
    have := diff1 (f := fun w => p w != endP p (u :: G) w) (g := fun w => flp p u w != endP (flp p u) G w) (w := u) nd (h u List.mem_cons_self) (by
      rw [endP_c, flp_at]; cases p u <;> cases endP (flp p u) G u <;> rfl) fun v hv => by rw [endP_c, flp_ne p hv]
    rw [List.length_cons]
    omega
/-- those ahead of door j + 1, those beyond it -/
def ahD (R : List (List Int)) (j : Nat) : List Int := isrt (R.take (j + 1)).flatten
def byD (R : List (List Int)) (j : Nat) : List Int := isrt (R.drop (j + 1)).flatten
section
variable {folk : List Int} {d : Nat} {R0 R : List (List Int)} {D0 D : List Int} {ps : List (Int × Int)}
theorem Hou.parts (h : Hou folk d R D) (j : Nat) : ((R.take (j + 1)).flatten ++ (R.drop (j + 1)).flatten).Perm folk := by
  rw [← List.flatten_append, List.take_append_drop]
  exact h.perm
theorem isrt_up {A : List Int} (h : A.Nodup) : (isrt A).Pairwise (· < ·) :=
  ((isrt_le A).and ((isrt_perm A).nodup_iff.mpr h)).imp fun h => by have := h.1; have := h.2; omega
theorem Hou.small (f : Fk folk) (h : Hou folk d R D) {j : Nat} (hj : j < d) : Hou folk 1 [ahD R j, byD R j] [D.getD j 0] := by
  have pp := h.parts j
  have nd := pp.symm.nodup f.nd
  have nn := List.nodup_append.mp nd
  refine ⟨rfl, rfl, ?_, ?_, ?_⟩
  · simp only [List.flatten_cons, List.flatten_nil, List.append_nil]
    exact ((isrt_perm _).append (isrt_perm _)).trans pp
  · intro r hr
    simp only [List.mem_cons, List.not_mem_nil, or_false] at hr
    rcases hr with rfl | rfl
    · exact isrt_up nn.1
    · exact isrt_up nn.2.1
  · intro m hm
    simp only [List.mem_cons, List.not_mem_nil, or_false] at hm
    subst hm
    have hl := h.ld
    rw [List.getD_eq_getElem?_getD, List.getElem?_eq_getElem (by omega)]
    exact h.bd _ (List.getElem_mem _)
theorem by_iff {j : Nat} {v : Int} : v ∈ byD R j ↔ bey R j v = true := by simp [byD, isrt_mem, bey]
theorem Hou.ah_iff (f : Fk folk) (h : Hou folk d R D) {j : Nat} {v : Int} : v ∈ ahD R j ↔ v ∈ folk ∧ bey R j v = false := by
  have pp := h.parts j
  have nn := List.nodup_append.mp (pp.symm.nodup f.nd)
  have hm : v ∈ folk ↔ v ∈ (R.take (j + 1)).flatten ∨ v ∈ (R.drop (j + 1)).flatten := by
    rw [← pp.mem_iff, List.mem_append]
  simp only [ahD, isrt_mem, bey, decide_eq_false_iff_not, hm]
  constructor
  · intro a
    exact ⟨.inl a, fun b => nn.2.2 v a v b rfl⟩
  · rintro ⟨a | a, b⟩
    · exact a
    · exact absurd a b
theorem Hou.by_in (h : Hou folk d R D) {j : Nat} {v : Int} (hv : v ∈ byD R j) : v ∈ folk := by
  rw [← (h.parts j).mem_iff, List.mem_append]
  right
  simpa [byD, isrt_mem] using hv
theorem Hou.by_nd (f : Fk folk) (h : Hou folk d R D) {j : Nat} : (byD R j).Nodup :=
  (isrt_perm _).nodup_iff.mpr (List.nodup_append.mp ((h.parts j).symm.nodup f.nd)).2.1
theorem bookL_mem (h : Run d R0 D0 ps R D) (f : Fk folk) (h0 : Hou folk d R0 D0) {z w : Int} (hw : w ∈ bookL ps z) : w ∈ folk := by
  induction h with
  | nil => simp [bookL] at hw
  | @snoc ps R1 D1 v k h hk l ih =>
    rw [bookL_app, List.mem_append] at hw
    rcases hw with hw | hw
    · exact ih hw
    · have : w = v := by
        simp only [bookL, List.filter_cons, List.filter_nil] at hw
        split at hw <;> simp at hw
        exact hw
      subst this
      exact Let.mem (h.hou f h0) hk l
/-- what goings by a door have done can be wished of it -/
theorem Run.wish (f : Fk folk) (h0 : Hou folk d R0 D0) (h : Run d R0 D0 ps R D) {j : Nat} (hj : j < d) :
    NB (D0.getD j 0) (entL (ahD R0 j) (byD R j)) (lvL (byD R0 j) (byD R j)) ∧
    (entL (ahD R0 j) (byD R j)).length + (lvL (byD R0 j) (byD R j)).length ≤ (bookL ps ((j : Int) + 1)).length ∧
    ((entL (ahD R0 j) (byD R j)).length + (lvL (byD R0 j) (byD R j)).length) % 2 = (bookL ps ((j : Int) + 1)).length % 2 := by
  obtain ⟨b1, b2, b3⟩ := h.book f h0 hj
  have hh := h.hou f h0
  have me : ∀ v, v ∈ entL (ahD R0 j) (byD R j) ↔ v ∈ folk ∧ bey R0 j v = false ∧ bey R j v = true := fun v => by
    simp only [entL, List.mem_filter, decide_eq_true_eq, h0.ah_iff f, by_iff, and_assoc]
  have ml : ∀ v, v ∈ lvL (byD R0 j) (byD R j) ↔ bey R0 j v = true ∧ bey R j v = false := fun v => by
    simp only [lvL, List.mem_filter, Bool.not_eq_true', decide_eq_false_iff_not, by_iff, Bool.not_eq_true]
  refine ⟨⟨fun w hw c => ?_, fun w hw c => ?_⟩, ?_⟩
  · obtain ⟨c1, c2, c3⟩ := (me w).mp hw
    refine no_low b1 w c2 (by rw [b2]; exact c3) c.1 fun v hv hp => ?_
    rw [b2]
    have := fun hl => c.2 v ((ml v).mpr ⟨hp, hl⟩) hv
    cases hq : bey R j v with
    | true => rfl
    | false => exact absurd hq this
  · obtain ⟨c2, c3⟩ := (ml w).mp hw
    refine no_high b1 w c2 (by rw [b2]; exact c3) c.1 fun v hv hp => ?_
    rw [b2]
    by_cases hf : v ∈ folk
    · cases hq : bey R j v with
      | false => rfl
      | true => exact absurd hv (c.2 v ((me v).mpr ⟨hf, hp, hq⟩))
    · cases hq : bey R j v with
      | false => rfl
      | true => exact absurd (hh.by_in (by_iff.mpr hq)) hf
  · have e := len_run f.nd (G := bookL ps ((j : Int) + 1)) (p := bey R0 j) fun w hw => bookL_mem h f h0 hw
    rw [b2] at e
    have nA : (entL (ahD R0 j) (byD R j) ++ lvL (byD R0 j) (byD R j)).Nodup := by
      refine List.nodup_append.mpr ⟨?_, (h0.by_nd f).filter _, fun a ha b hb c => ?_⟩
      · exact ((isrt_perm _).nodup_iff.mpr (List.nodup_append.mp ((h0.parts j).symm.nodup f.nd)).1).filter _
      · subst c
        have := ((me a).mp ha).2.1
        rw [((ml a).mp hb).1] at this
        cases this
    have pp : (entL (ahD R0 j) (byD R j) ++ lvL (byD R0 j) (byD R j)).Perm (folk.filter fun w => bey R0 j w != bey R j w) := by
      refine (List.perm_ext_iff_of_nodup nA (f.nd.filter _)).mpr fun v => ?_
      rw [List.mem_append, me, ml, List.mem_filter]
      constructor
      · rintro (⟨a, b, c⟩ | ⟨b, c⟩)
        · exact ⟨a, by rw [b, c]; rfl⟩
        · exact ⟨h0.by_in (by_iff.mpr b), by rw [b, c]; rfl⟩
      · rintro ⟨a, b⟩
        cases hp : bey R0 j v <;> cases hq : bey R j v
        · rw [hp, hq] at b; cases b
        · exact .inl ⟨a, rfl, rfl⟩
        · exact .inr ⟨rfl, rfl⟩
        · rw [hp, hq] at b; cases b
    have := pp.length_eq
    rw [List.length_append] at this
    omega
end
end Y
/-! W, part K: while; how many ones a number has by twos, its lowest nought; the numbers of those that are come to. -/
namespace Y
open PySem L2 PyProof.Rows
theorem wS_wh {c : Ev → Ou Bool} {body : Ev → So} {r : Ev} {Qn : Ev → Prop} {Qr : Vl → Ev → Prop} {Qb Qc : Ev → Prop} (P : Nat → Ev → Prop) {n : Nat} (hn : n < 100000) (h0 : P n r)
    (hs : ∀ k r, P k r → wT c r fun b r1 => (b = false → Qn r1) ∧ (b = true → ∃ j, j < k ∧ wS body r1 (P j) Qr Qn (P j))) : wS (sWh c body) r Qn Qr Qb Qc := by
  have go : ∀ (m k : Nat) (r : Ev), k < m → P k r → wS (fun r => whN c body m r) r Qn Qr Qb Qc := by
    intro m
    induction m with
    | zero => intro k r h; omega
    | succ m ih =>
      intro k r hk hp
      have h1 := hs k r hp
      unfold wT at h1
      unfold wS
      simp only [whN]
      cases hc : c r with
      | ok b r1 =>
        rw [hc] at h1
        simp only at h1
        cases b with
        | false => exact h1.1 rfl
        | true =>
          obtain ⟨j, hj, h2⟩ := h1.2 rfl
          unfold wS at h2
          simp only
          have nx : ∀ r3, P j r3 → wS (fun r => whN c body m r) r3 Qn Qr Qb Qc := fun r3 h3 => ih j r3 (by omega) h3
          cases hb : body r1 with
          | nx r3 => rw [hb] at h2; exact nx r3 h2
          | ct r3 => rw [hb] at h2; exact nx r3 h2
          | bk r3 => rw [hb] at h2; exact h2
          | rt z r3 => rw [hb] at h2; exact h2
          | ex _ _ _ => rw [hb] at h2; exact h2
          | no => rw [hb] at h2; exact h2
      | ex _ _ _ => rw [hc] at h1; exact h1
      | no => rw [hc] at h1; exact h1
  have := go FUEL n r hn h0
  unfold wS at this ⊢
  simp only [sWh]
  exact this
theorem wS_forG {q : Ev → Ou (List Dt)} {t : Vl → Ev → Option Ev} {body : Ev → So} {r : Ev} {Qn : Ev → Prop} {Qr : Vl → Ev → Prop} {Qb Qc : Ev → Prop} (G : List Dt) (r1 : Ev) (hq : wI q r fun xs r2 => xs = G ∧ r2 = r1)
    (h : ∃ P : Nat → Ev → Prop, P 0 r1 ∧ (∀ k x r, G[k]? = some x → P k r → wK (t (x, .c) r) fun r2 => wS body r2 (P (k + 1)) Qr Qn (P (k + 1))) ∧ ∀ r, P G.length r → Qn r) : wS (sFor q t body) r Qn Qr Qb Qc := by
  refine wS_for' ?_
  unfold wI at hq ⊢
  cases hx : q r with
  | ok xs r2 =>
    rw [hx] at hq
    obtain ⟨rfl, rfl⟩ := hq
    exact h
  | ex _ _ _ => rw [hx] at hq; exact hq
  | no => rw [hx] at hq; exact hq
/-- how many ones by twos -/
def onesN : Nat → Nat
  | 0 => 0
  | n + 1 => (n + 1) % 2 + onesN ((n + 1) / 2)
decreasing_by omega
theorem onesN_eq (n : Nat) : onesN n = n % 2 + onesN (n / 2) := by
  cases n with
  | zero => simp [onesN]
  | succ n => rw [onesN]
theorem onesN_dbl (n : Nat) (b : Nat) (hb : b < 2) : onesN (b + 2 * n) = b + onesN n := by
  rw [onesN_eq, show (b + 2 * n) % 2 = b by omega, show (b + 2 * n) / 2 = n by omega]
/-- how many ones it has at its end -/
def lowN (n : Nat) : Nat := if h : n % 2 = 1 then 1 + lowN (n / 2) else 0
decreasing_by omega
theorem lowN_o (n : Nat) : lowN (1 + 2 * n) = 1 + lowN n := by
  rw [lowN, dif_pos (by omega), show (1 + 2 * n) / 2 = n by omega]
theorem lowN_e (n : Nat) : lowN (2 * n) = 0 := by
  rw [lowN, dif_neg (by omega)]
theorem ones_next : ∀ n : Nat, onesN (n + 1) + lowN n = onesN n + 1 := by
  intro n
  induction n using Nat.strongRecOn with
  | ind n ih =>
    by_cases h : n % 2 = 1
    · obtain ⟨k, rfl⟩ : ∃ k, n = 1 + 2 * k := ⟨n / 2, by omega⟩
      have := ih k (by omega)
      rw [lowN_o, show 1 + 2 * k + 1 = 0 + 2 * (k + 1) by omega, onesN_dbl _ 0 (by omega), onesN_dbl _ 1 (by omega)]
      omega
    · obtain ⟨k, rfl⟩ : ∃ k, n = 2 * k := ⟨n / 2, by omega⟩
      rw [lowN_e, show 2 * k + 1 = 1 + 2 * k by omega, onesN_dbl _ 1 (by omega)]
      have := onesN_dbl k 0 (by omega)
      rw [Nat.zero_add] at this
      rw [this]
      omega
theorem ones_pow (t : Nat) : onesN (2 ^ t) = 1 := by
  induction t with
  | zero => simp [onesN]
  | succ t ih =>
    have := onesN_dbl (2 ^ t) 0 (by omega)
    rw [Nat.zero_add] at this
    rw [Nat.pow_succ, Nat.mul_comm, this, ih]
/-- the least number of those whose heaviest one has rank t, whose others have the number s -/
def baseN (t s : Nat) : Int := 3 + t + ((t : Int) - 2) * 2 ^ t + t * s + onesN s
theorem base_next (t s : Nat) : baseN t (s + 1) = baseN t s + t + 1 - lowN s := by
  have := ones_next s
  have e : (t : Int) * ((s + 1 : Nat) : Int) = t * s + t := by rw [Int.natCast_add, Int.mul_add]; simp
  unfold baseN
  rw [e]
  omega
theorem base_top (t : Nat) : baseN t (2 ^ t) = baseN (t + 1) 0 := by
  have e : (t : Int) * ((2 ^ t : Nat) : Int) = t * 2 ^ t := by rw [Int.natCast_pow]; rfl
  have e2 : (((t + 1 : Nat) : Int) - 2) * 2 ^ (t + 1) = 2 * (t * 2 ^ t) - 2 * 2 ^ t := by
    rw [Int.pow_succ, Int.natCast_add, show ((t : Int) + ((1 : Nat) : Int) - 2) = (t : Int) - 1 by omega, Int.sub_mul, ← Int.mul_assoc]
    omega
  have e3 : ((t : Int) - 2) * 2 ^ t = t * 2 ^ t - 2 * 2 ^ t := Int.sub_mul _ _ _
  unfold baseN
  rw [e, e2, e3, ones_pow, show onesN 0 = 0 by simp [onesN]]
  simp only [Int.natCast_zero, Int.mul_zero, Int.natCast_add]
  omega
theorem low_le : ∀ (t s : Nat), s < 2 ^ t → lowN s ≤ t := by
  intro t
  induction t with
  | zero =>
    intro s h
    have : s = 2 * 0 := by omega
    rw [this, lowN_e]
    omega
  | succ t ih =>
    intro s h
    by_cases c : s % 2 = 1
    · obtain ⟨k, rfl⟩ : ∃ k, s = 1 + 2 * k := ⟨s / 2, by omega⟩
      rw [lowN_o]
      have := ih k (by rw [Nat.pow_succ] at h; omega)
      omega
    · rw [lowN, dif_neg c]
      omega
theorem base_le {t s : Nat} : ∀ {s' : Nat}, s ≤ s' → s' ≤ 2 ^ t → baseN t s ≤ baseN t s' := by
  intro s' h h2
  induction s' with
  | zero => rw [show s = 0 by omega]; omega
  | succ s' ih =>
    by_cases c : s = s' + 1
    · rw [c]; omega
    · have := ih (by omega) (by omega)
      have := low_le t s' (by omega)
      rw [base_next]
      omega
theorem base_up {t : Nat} : ∀ {t' : Nat}, t ≤ t' → baseN t 0 ≤ baseN t' 0 := by
  intro t' h
  induction t' with
  | zero => rw [show t = 0 by omega]; omega
  | succ t' ih =>
    by_cases c : t = t' + 1
    · rw [c]; omega
    · have := ih (by omega)
      have := base_le (t := t') (s := 0) (s' := 2 ^ t') (Nat.zero_le _) (Nat.le_refl _)
      rw [← base_top]
      omega
theorem base_1 (t s : Nat) (h : s ≤ 2 ^ t) : 1 ≤ baseN t s := by
  have h1 := base_up (t := 0) (t' := t) (by omega)
  have h2 := base_le (t := t) (s := 0) (s' := s) (by omega) h
  have : baseN 0 0 = 1 := by simp [baseN, onesN]
  omega
theorem base_inj {t s t' s' i i' : Nat} (h1 : s < 2 ^ t) (h2 : s' < 2 ^ t') (a1 : lowN s ≤ i) (a2 : i ≤ t) (b1 : lowN s' ≤ i') (b2 : i' ≤ t') (e : baseN t s + i - lowN s = baseN t' s' + i' - lowN s') : t = t' ∧ s = s' ∧ i = i' := by
  have less : ∀ {t s t' s' i i' : Nat}, s < 2 ^ t → s' < 2 ^ t' → lowN s ≤ i → i ≤ t → lowN s' ≤ i' → i' ≤ t' → (t < t' ∨ (t = t' ∧ s < s')) → baseN t s + i - lowN s < baseN t' s' + i' - lowN s' := by
    intro t s t' s' i i' h1 h2 a1 a2 b1 b2 c
    have n1 := base_next t s
    rcases c with c | ⟨rfl, c⟩
    · have m1 := base_le (t := t) (s := s + 1) (s' := 2 ^ t) (by omega) (by omega)
      rw [base_top] at m1
      have m2 := base_up (t := t + 1) (t' := t') (by omega)
      have m3 := base_le (t := t') (s := 0) (s' := s') (by omega) (by omega)
      omega
    · have m1 := base_le (t := t) (s := s + 1) (s' := s') (by omega) (by omega)
      omega
  rcases Nat.lt_trichotomy t t' with c | c | c
  · have := less h1 h2 a1 a2 b1 b2 (.inl c)
    omega
  · rcases Nat.lt_trichotomy s s' with c2 | c2 | c2
    · have := less h1 h2 a1 a2 b1 b2 (.inr ⟨c, c2⟩)
      omega
    · subst c c2
      exact ⟨rfl, rfl, by omega⟩
    · have := less h2 h1 b1 b2 a1 a2 (.inr ⟨c.symm, c2⟩)
      omega
  · have := less h2 h1 b1 b2 a1 a2 (.inl c)
    omega
/-- by twos, as a number from nought on -/
def hvN (p : Int → Bool) : List Int → Nat
  | [] => 0
  | v :: vs => (if p v then 1 else 0) + 2 * hvN p vs
theorem hvN_hi (p : Int → Bool) : ∀ L, hvN p L < 2 ^ L.length
  | [] => by simp [hvN]
  | v :: vs => by
    have := hvN_hi p vs
    rw [hvN, List.length_cons, Nat.pow_succ]
    split <;> omega
theorem hvN_inj {p q : Int → Bool} : ∀ {L : List Int}, hvN p L = hvN q L → ∀ v ∈ L, p v = q v
  | [], _, v, h => by simp at h
  | a :: L, h, v, hv => by
    rw [hvN, hvN] at h
    have e : p a = q a := by
      cases hp : p a <;> cases hq : q a <;> simp only [hp, hq, if_true, if_false, Bool.false_eq_true] at h <;> first | rfl | omega
    rcases List.mem_cons.mp hv with rfl | hv
    · exact e
    · refine hvN_inj (L := L) ?_ v hv
      rw [e] at h
      omega
theorem hvN_app (p : Int → Bool) : ∀ (L M : List Int), hvN p (L ++ M) = hvN p L + 2 ^ L.length * hvN p M
  | [], M => by simp [hvN]
  | a :: L, M => by
    rw [List.cons_append, hvN, hvN, hvN_app p L M, List.length_cons, Nat.pow_succ, Nat.mul_add, Nat.mul_comm (2 ^ L.length) 2, Nat.mul_assoc]
    omega
theorem hvN_low {p : Int → Bool} : ∀ {L : List Int} {i : Nat} {v : Int}, L[i]? = some v → p v = false → lowN (hvN p L) ≤ i
  | [], i, v, h, _ => by simp at h
  | a :: L, 0, v, h, hp => by
    simp only [List.getElem?_cons_zero, Option.some.injEq] at h
    subst h
    rw [hvN, hp]
    simp only [Bool.false_eq_true, if_false, Nat.zero_add, lowN_e]
    omega
  | a :: L, i + 1, v, h, hp => by
    simp only [List.getElem?_cons_succ] at h
    have := hvN_low h hp
    rw [hvN]
    cases p a with
    | false => simp only [Bool.false_eq_true, if_false, Nat.zero_add, lowN_e]; omega
    | true => simp only [if_true, lowN_o]; omega
theorem hvN_none {p : Int → Bool} : ∀ {L : List Int}, (∀ v ∈ L, p v = false) → hvN p L = 0
  | [], _ => rfl
  | a :: L, h => by rw [hvN, h a List.mem_cons_self, hvN_none fun v hv => h v (List.mem_cons_of_mem _ hv)]; rfl
theorem okRun_snoc : ∀ {G : List Int} {p : Int → Bool} {m w : Int}, okRun p m (G ++ [w]) → okRun p m G ∧ ((endP p G w = false ∧ endM m G < w) ∨ (endP p G w = true ∧ w < endM m G))
  | [], p, m, w, h => ⟨trivial, h.1⟩
  | u :: G, p, m, w, h => by
    obtain ⟨h1, h2⟩ := h
    obtain ⟨h3, h4⟩ := okRun_snoc h2
    exact ⟨⟨h1, h3⟩, h4⟩
/-- what's come to by one door from a new house -/
structure CmI (F : List Int) (q : Int → Bool) (m : Int) (n : Nat) (top : Int) : Prop where
  inF : top ∈ F
  at_ : q top = true
  le : ∀ v, q v = true → v ≤ top
  mle : m ≤ top
  mF : m ∈ F
  gap : q m = true → m = top ∨ ∃ u ∈ F, u < m ∧ q u = false
  few : m = top ∨ (F.filter q).length + 2 ≤ n
theorem came_run {F : List Int} (nd : F.Nodup) (pos : ∀ w ∈ F, 1 ≤ w) : ∀ {G : List Int}, (∀ w ∈ G, w ∈ F) → okRun (fun _ => false) 0 G →
    (G = [] ∨ ∃ top, CmI F (endP (fun _ => false) G) (endM 0 G) G.length top) := by
  intro G
  induction h : G.length generalizing G with
  | zero => intro _ _; exact .inl (List.eq_nil_of_length_eq_zero h)
  | succ n ih =>
    intro hG hr
    right
    obtain ⟨G, w, rfl⟩ : ∃ G' w, G = G' ++ [w] := by
      have hne : G ≠ [] := fun c => by rw [c] at h; simp at h
      exact ⟨G.dropLast, G.getLast hne, (List.dropLast_concat_getLast hne).symm⟩
    rw [List.length_append, List.length_singleton] at h
    have hn : G.length = n := by omega
    obtain ⟨h1, h2⟩ := okRun_snoc hr
    have hw : w ∈ F := hG w (by simp)
    have hw1 := pos w hw
    have hG' : ∀ v ∈ G, v ∈ F := fun v hv => hG v (by simp [hv])
    have eP : endP (fun _ => false) (G ++ [w]) = flp (endP (fun _ => false) G) w := by rw [endP_app]; rfl
    have eM : endM 0 (G ++ [w]) = w := by rw [endM_app]; rfl
    have ll : (F.filter (endP (fun _ => false) G)).length ≤ G.length := by
      have := (len_run nd (p := fun _ => false) hG').1
      simpa using this
    rw [eP, eM, ← hn]
    have d1 := diff1 (f := flp (endP (fun _ => false) G) w) (g := endP (fun _ => false) G) nd hw (flp_at _ _) fun v hv => flp_ne _ hv
    have up : endP (fun _ => false) G w = false → (F.filter (flp (endP (fun _ => false) G) w)).length ≤ (F.filter (endP (fun _ => false) G)).length + 1 := fun _ => by omega
    have dn : endP (fun _ => false) G w = true → (F.filter (flp (endP (fun _ => false) G) w)).length + 1 ≤ (F.filter (endP (fun _ => false) G)).length := fun c => by
      have e : F.filter (flp (endP (fun _ => false) G) w) = (F.filter (endP (fun _ => false) G)).filter (fun v => decide (v ≠ w)) := (filter_less c).symm
      have hm : w ∈ F.filter (endP (fun _ => false) G) := List.mem_filter.mpr ⟨hw, c⟩
      rw [e]
      rcases d1 with d1 | d1
      · have := List.length_filter_le (fun v : Int => decide (v ≠ w)) (F.filter (endP (fun _ => false) G))
        rw [← e] at this
        omega
      · rw [← e]; omega
    rcases ih hn hG' h1 with rfl | ⟨top, c⟩
    · have e0 : endP (fun _ => false) ([] : List Int) = fun _ => false := rfl
      rw [e0]
      refine ⟨w, hw, by simp [flp], fun v hv => ?_, by omega, hw, fun _ => .inl rfl, .inl rfl⟩
      by_cases c : v = w
      · omega
      · rw [flp_ne _ c] at hv; cases hv
    · generalize endP (fun _ => false) G = q at *
      generalize endM 0 G = m at *
      rcases h2 with ⟨a, b⟩ | ⟨a, b⟩
      · have up := up a
        by_cases ct : w < top
        · refine ⟨top, c.inF, by rw [flp_ne _ (by omega)]; exact c.at_, fun v hv => ?_, by omega, hw, fun _ => .inr ?_, .inr ?_⟩
          · by_cases e : v = w
            · omega
            · rw [flp_ne _ e] at hv; exact c.le v hv
          · cases hq : q m with
            | false => exact ⟨m, c.mF, b, by rw [flp_ne _ (by omega)]; exact hq⟩
            | true =>
              rcases c.gap hq with e | ⟨u, hu, hu2, hu3⟩
              · omega
              · exact ⟨u, hu, by omega, by rw [flp_ne _ (by omega)]; exact hu3⟩
          · rcases c.few with e | e
            · omega
            · omega
        · have hne : w ≠ top := fun e => by rw [e, c.at_] at a; cases a
          refine ⟨w, hw, by rw [flp_at, a]; rfl, fun v hv => ?_, by omega, hw, fun _ => .inl rfl, .inl rfl⟩
          by_cases e : v = w
          · omega
          · rw [flp_ne _ e] at hv; have := c.le v hv; omega
      · have dn := dn a
        have hmt := c.mle
        refine ⟨top, c.inF, by rw [flp_ne _ (by omega)]; exact c.at_, fun v hv => ?_, by omega, hw, fun hq => ?_, .inr ?_⟩
        · by_cases e : v = w
          · omega
          · rw [flp_ne _ e] at hv; exact c.le v hv
        · rw [flp_at, a] at hq; cases hq
        · rcases c.few with e | e <;> omega
theorem idx_li {w : Int} : ∀ {F : List Int}, w ∈ F → (F.map Dt.i).findIdx? (fun z => eqD z (.i w)) = some (F.idxOf w)
  | [], h => by simp at h
  | a :: F, h => by
    rw [List.map_cons, List.findIdx?_cons, List.idxOf_cons, eqD_i]
    by_cases c : a = w
    · subst c; simp
    · have hw : w ∈ F := (List.mem_cons.mp h).resolve_left fun e => c e.symm
      rw [idx_li hw]
      have : (a == w) = false := by simpa using c
      simp [c, this]
theorem wO_idxI {ns : List Int} {a : Int} (h : a ∈ ns) {Q : Dt → Md → Prop} : wO (fIdx [.l (ns.map .i), .i a]) Q = Q (.i (ns.idxOf a : Nat)) .c := by
  simp only [fIdx, shp_li, shp_i, Bool.and_self, if_true, idx_li h, Option.map_some, wO_some]
/-- numbered from k on -/
def ens : Nat → List Int → List (Nat × Int)
  | _, [] => []
  | k, a :: L => (k, a) :: ens (k + 1) L
def enP (p : Nat × Int) : Dt := .t [.i p.1, .i p.2]
theorem enum_ens : ∀ (L : List Int) (k : Nat), enumD k (L.map Dt.i) = (ens k L).map enP
  | [], k => rfl
  | a :: L, k => by
    have := enum_ens L (k + 1)
    rw [List.map_cons, ens, List.map_cons, enumD, ← this]
    rfl
theorem ens_len : ∀ (L : List Int) (k : Nat), (ens k L).length = L.length
  | [], _ => rfl
  | a :: L, k => by rw [ens, List.length_cons, ens_len, List.length_cons]
theorem ens_mem : ∀ {L : List Int} {k : Nat} {p : Nat × Int}, p ∈ ens k L → p.1 < k + L.length
  | [], _, _, h => by simp [ens] at h
  | a :: L, k, p, h => by
    rw [ens, List.mem_cons] at h
    rw [List.length_cons]
    rcases h with rfl | h
    · simp only; omega
    · have := ens_mem h; omega
theorem ens_sum {p : Int → Bool} : ∀ (L : List Int) (k : Nat), (((ens k L).filter fun x => p x.2).map fun x => (2 : Int) ^ x.1).sum = 2 ^ k * (hvN p L : Nat)
  | [], k => by simp [ens, hvN]
  | a :: L, k => by
    have ih := ens_sum (p := p) L (k + 1)
    rw [ens, hvN, List.filter_cons]
    cases hp : p a with
    | true =>
      simp only [hp, if_true, List.map_cons, List.sum_cons, ih]
      rw [Int.pow_succ, Int.natCast_add, Int.mul_add, Int.natCast_mul, Int.mul_assoc]
      simp
    | false =>
      simp only [hp, Bool.false_eq_true, if_false, ih]
      rw [Int.pow_succ, Int.natCast_add, Int.mul_add, Int.natCast_mul, Int.mul_assoc]
      simp
end Y
/-! W, part L: the long row. -/
namespace Y
open PySem L2 PyProof.Rows
theorem pow2 (k : Nat) : 2 ^ (k + 1) = 2 * 2 ^ k := by rw [Nat.pow_succ]; omega
theorem pow1 (k : Nat) : 1 ≤ 2 ^ k := Nat.one_le_two_pow
/-- whether a number has that two -/
def bitN (r j : Nat) : Bool := decide (r / 2 ^ j % 2 = 1)
theorem bit_0 (r : Nat) : bitN r 0 = decide (r % 2 = 1) := by simp [bitN]
theorem bit_s (r j : Nat) : bitN r (j + 1) = bitN (r / 2) j := by
  simp only [bitN]
  rw [pow2, ← Nat.div_div_eq_div_mul]
theorem bit_next : ∀ (j r : Nat), bitN (r + 1) j = if j ≤ lowN r then !bitN r j else bitN r j
  | 0, r => by
    rw [bit_0, bit_0, if_pos (Nat.zero_le _)]
    by_cases h : r % 2 = 1
    · have : ¬ (r + 1) % 2 = 1 := by omega
      simp [h, this]
    · have : (r + 1) % 2 = 1 := by omega
      simp [h, this]
  | j + 1, r => by
    rw [bit_s, bit_s]
    by_cases h : r % 2 = 1
    · have e : lowN r = 1 + lowN (r / 2) := by rw [lowN, dif_pos h]
      rw [show (r + 1) / 2 = r / 2 + 1 by omega, bit_next j (r / 2), e]
      by_cases c : j ≤ lowN (r / 2)
      · rw [if_pos c, if_pos (by omega)]
      · rw [if_neg c, if_neg (by omega)]
    · have e : lowN r = 0 := by rw [lowN, dif_neg h]
      rw [show (r + 1) / 2 = r / 2 by omega, e, if_neg (by omega)]
theorem bit_low : ∀ (j r : Nat), j < lowN r → bitN r j = true
  | 0, r, h => by
    rw [bit_0]
    by_cases c : r % 2 = 1
    · simp [c]
    · rw [lowN, dif_neg c] at h; omega
  | j + 1, r, h => by
    rw [bit_s]
    by_cases c : r % 2 = 1
    · rw [lowN, dif_pos c] at h
      exact bit_low j _ (by omega)
    · rw [lowN, dif_neg c] at h; omega
theorem bit_at : ∀ (n r : Nat), lowN r = n → bitN r n = false
  | 0, r, h => by
    rw [bit_0]
    by_cases c : r % 2 = 1
    · rw [lowN, dif_pos c] at h; omega
    · simp [c]
  | n + 1, r, h => by
    rw [bit_s]
    by_cases c : r % 2 = 1
    · rw [lowN, dif_pos c] at h
      exact bit_at n _ (by omega)
    · rw [lowN, dif_neg c] at h; omega
theorem bit_ones : ∀ (h j : Nat), j < h → bitN (2 ^ h - 1) j = true
  | 0, j, hj => by omega
  | h + 1, 0, _ => by
    have := pow1 h
    rw [bit_0, pow2, show (2 * 2 ^ h - 1) % 2 = 1 by omega]
    rfl
  | h + 1, j + 1, hj => by
    have := pow1 h
    rw [bit_s, pow2, show (2 * 2 ^ h - 1) / 2 = 2 ^ h - 1 by omega]
    exact bit_ones h j (by omega)
theorem bit_zero (j : Nat) : bitN 0 j = false := by simp [bitN]
theorem low_ones : ∀ k : Nat, lowN (2 ^ k - 1) = k
  | 0 => by rw [show 2 ^ 0 - 1 = 2 * 0 by rfl, lowN_e]
  | k + 1 => by
    have := pow1 k
    rw [pow2, show 2 * 2 ^ k - 1 = 1 + 2 * (2 ^ k - 1) by omega, lowN_o, low_ones k]
    omega
theorem low_add : ∀ (k i : Nat), i + 1 < 2 ^ k → lowN (2 ^ k + i) = lowN i
  | 0, i, h => by simp at h
  | k + 1, i, h => by
    rw [pow2] at h ⊢
    by_cases c : i % 2 = 1
    · obtain ⟨j, rfl⟩ : ∃ j, i = 1 + 2 * j := ⟨i / 2, by omega⟩
      rw [show 2 * 2 ^ k + (1 + 2 * j) = 1 + 2 * (2 ^ k + j) by omega, lowN_o, lowN_o, low_add k j (by omega)]
    · obtain ⟨j, rfl⟩ : ∃ j, i = 2 * j := ⟨i / 2, by omega⟩
      rw [show 2 * 2 ^ k + 2 * j = 2 * (2 ^ k + j) by omega, lowN_e, lowN_e]
theorem low_lt {h r : Nat} (hr : r + 1 < 2 ^ h) : lowN r < h := by
  have h1 := low_le h r (by omega)
  rcases Nat.lt_or_eq_of_le h1 with c | c
  · exact c
  · exfalso
    -- all ones up to h: r is 2^h - 1
    have : ∀ (h r : Nat), r + 1 < 2 ^ h → lowN r < h := by
      intro h
      induction h with
      | zero => intro r hr; simp at hr
      | succ h ih =>
        intro r hr
        rw [pow2] at hr
        by_cases c : r % 2 = 1
        · rw [lowN, dif_pos c]
          have := ih (r / 2) (by omega)
          omega
        · rw [lowN, dif_neg c]; omega
    have := this h r hr
    omega
/-! rounds, by ranks -/
def rows (a k : Nat) : List Int := (List.range k).map fun j : Nat => ((a + j : Nat) : Int)
theorem mem_rows {a k : Nat} {v : Int} : v ∈ rows a k ↔ (a : Int) ≤ v ∧ v < a + k := by
  simp only [rows, List.mem_map, List.mem_range]
  constructor
  · rintro ⟨j, hj, rfl⟩
    omega
  · rintro ⟨h1, h2⟩
    exact ⟨v.toNat - a, by omega, by omega⟩
theorem rows_up (a k : Nat) : (rows a k).Pairwise (· < ·) := by
  rw [rows, List.pairwise_map]
  exact List.pairwise_lt_range.imp fun h => by omega
theorem rows_len (a k : Nat) : (rows a k).length = k := by simp [rows]
theorem rows_s (a k : Nat) : rows a (k + 1) = rows a k ++ [((a + k : Nat) : Int)] := by simp [rows, List.range_succ]
theorem rows_c (a k : Nat) : rows a (k + 1) = (a : Int) :: rows (a + 1) k := by
  simp only [rows, List.range_succ_eq_map, List.map_cons, List.map_map, Nat.add_zero]
  congr 1
  exact List.map_congr_left fun j _ => by simp; omega
theorem okRun_dn : ∀ {L : List Int} {p : Int → Bool} {m : Int}, L.Pairwise (· > ·) → (∀ v ∈ L, p v = true ∧ v < m) → okRun p m L ∧ ∀ v, endP p L v = (p v && !decide (v ∈ L))
  | [], p, m, _, _ => ⟨trivial, fun v => by simp [endP]⟩
  | w :: L, p, m, hs, h => by
    obtain ⟨h1, h2⟩ := List.pairwise_cons.mp hs
    have hw := h w List.mem_cons_self
    have hr := okRun_dn (L := L) (p := flp p w) (m := w) h2 fun v hv => by
      have := h1 v hv
      rw [flp_ne p (by omega)]
      exact ⟨(h v (List.mem_cons_of_mem _ hv)).1, this⟩
    refine ⟨⟨.inr hw, hr.1⟩, fun v => ?_⟩
    rw [endP_c, hr.2 v]
    by_cases c : v = w
    · subst c
      rw [flp_at, hw.1]
      simp
    · rw [flp_ne p c]
      simp [c]
theorem endM_last : ∀ {L : List Int} {m : Int}, L ≠ [] → endM m L = L.getLastD 0
  | [a], m, _ => rfl
  | a :: b :: L, m, _ => by
    rw [endM_c, endM_last (L := b :: L) (by simp)]
    rfl
/-- a round by ranks: h low ones, s in the midst -/
def rndI (h s k : Nat) : List Int := (rows (h + s) k).reverse ++ rows h s ++ rows (h - k) k ++ rows h s
/-- who is beyond behind r rounds -/
def insI (h s r : Nat) (v : Int) : Bool :=
  (decide ((h : Int) ≤ v ∧ v < h + s)) || (decide ((h : Int) + s ≤ v ∧ v < 2 * h + s) && bitN r (v.toNat - (h + s))) || (decide (0 ≤ v ∧ v < h) && !bitN r (h - 1 - v.toNat))
theorem ins_mid {h s r : Nat} {v : Int} (c : (h : Int) ≤ v ∧ v < h + s) : insI h s r v = true := by simp [insI, c]
theorem ins_hi {h s r : Nat} {v : Int} (c : (h : Int) + s ≤ v ∧ v < 2 * h + s) : insI h s r v = bitN r (v.toNat - (h + s)) := by
  have h1 : ¬ ((h : Int) ≤ v ∧ v < h + s) := by omega
  have h2 : ¬ (0 ≤ v ∧ v < h) := by omega
  simp [insI, c, h1, h2]
theorem ins_lo {h s r : Nat} {v : Int} (c : 0 ≤ v ∧ v < h) : insI h s r v = !bitN r (h - 1 - v.toNat) := by
  have h1 : ¬ ((h : Int) ≤ v ∧ v < h + s) := by omega
  have h2 : ¬ ((h : Int) + s ≤ v ∧ v < 2 * h + s) := by omega
  simp only [insI, decide_eq_false h1, decide_eq_false h2, decide_eq_true c, Bool.false_or, Bool.false_and, Bool.true_and]
theorem ins_out {h s r : Nat} {v : Int} (c : v < 0 ∨ 2 * h + s ≤ v) : insI h s r v = false := by
  have h1 : ¬ ((h : Int) ≤ v ∧ v < h + s) := by omega
  have h2 : ¬ ((h : Int) + s ≤ v ∧ v < 2 * h + s) := by omega
  have h3 : ¬ (0 ≤ v ∧ v < h) := by omega
  simp only [insI, decide_eq_false h1, decide_eq_false h2, decide_eq_false h3, Bool.false_or, Bool.false_and]
theorem rows_down (a k : Nat) : (rows a k).reverse.Pairwise (· > ·) := List.pairwise_reverse.mpr ((rows_up a k).imp fun h => h)
theorem rnd_run {h s r : Nat} (hs : s < 2) (hr : r + 1 < 2 ^ h) :
    okRun (insI h s r) ((h + s : Nat) - 1 : Int) (rndI h s (1 + lowN r)) ∧ endP (insI h s r) (rndI h s (1 + lowN r)) = insI h s (r + 1) ∧ endM ((h + s : Nat) - 1 : Int) (rndI h s (1 + lowN r)) = ((h + s : Nat) - 1 : Int) := by
  have hk := low_lt hr
  have bl := fun j => bit_low j r
  have ba := bit_at _ r rfl
  have bn := fun j => bit_next j r
  generalize lowN r = k at *
  have e1 : (rows (h + s) (1 + k)).reverse = ((h + s + k : Nat) : Int) :: (rows (h + s) k).reverse := by
    rw [Nat.add_comm 1 k, rows_s, List.reverse_append]; rfl
  have e2 : rows (h - (1 + k)) (1 + k) = ((h - 1 - k : Nat) : Int) :: rows (h - k) k := by
    rw [Nat.add_comm 1 k, rows_c, show h - (k + 1) = h - 1 - k by omega, show h - 1 - k + 1 = h - k by omega]
  have eG : rndI h s (1 + k) = [((h + s + k : Nat) : Int)] ++ ((rows (h + s) k).reverse ++ (rows h s ++ ([((h - 1 - k : Nat) : Int)] ++ (rows (h - k) k ++ rows h s)))) := by
    rw [rndI, e1, e2]
    simp only [List.append_assoc, List.cons_append, List.nil_append]
  rw [eG]
  have q1 : insI h s r ((h + s + k : Nat) : Int) = false := by
    rw [ins_hi ⟨by omega, by omega⟩, show (((h + s + k : Nat) : Int)).toNat - (h + s) = k by omega]; exact ba
  generalize hp1 : flp (insI h s r) ((h + s + k : Nat) : Int) = p1
  have p1v : ∀ v : Int, v ≠ ((h + s + k : Nat) : Int) → p1 v = insI h s r v := fun v hv => by rw [← hp1, flp_ne _ hv]
  have r2 := okRun_dn (L := (rows (h + s) k).reverse) (p := p1) (m := ((h + s + k : Nat) : Int)) (rows_down _ _) fun v hv => by
    have hv := mem_rows.mp (List.mem_reverse.mp hv)
    refine ⟨?_, by omega⟩
    rw [p1v v (by omega), ins_hi ⟨by omega, by omega⟩]
    exact bl _ (by omega)
  have m2 : endM ((h + s + k : Nat) : Int) (rows (h + s) k).reverse = ((h + s : Nat) : Int) := by
    cases k with
    | zero => rfl
    | succ k => rw [rows_c, List.reverse_cons, endM_app]; rfl
  generalize hp2 : endP p1 (rows (h + s) k).reverse = p2 at *
  have p2v : ∀ v : Int, p2 v = (p1 v && !decide (((h + s : Nat) : Int) ≤ v ∧ v < (h + s : Nat) + k)) := fun v => by
    rw [r2.2 v]
    congr 2
    simp only [List.mem_reverse, mem_rows]
  have r3 := okRun_dn (L := rows h s) (p := p2) (m := ((h + s : Nat) : Int)) (by
    rcases (show s = 0 ∨ s = 1 by omega) with rfl | rfl
    · exact List.Pairwise.nil
    · exact List.pairwise_singleton _ _) fun v hv => by
      have hv := mem_rows.mp hv
      refine ⟨?_, by omega⟩
      rw [p2v, p1v v (by omega), ins_mid (by omega)]
      simp
      omega
  have m3 : endM ((h + s : Nat) : Int) (rows h s) = (h : Int) := by
    rcases (show s = 0 ∨ s = 1 by omega) with rfl | rfl <;> rfl
  generalize hp3 : endP p2 (rows h s) = p3 at *
  have p3v : ∀ v : Int, p3 v = (p2 v && !decide ((h : Int) ≤ v ∧ v < h + s)) := fun v => by
    rw [r3.2 v]
    congr 2
    simp only [mem_rows]
  have q4 : p3 ((h - 1 - k : Nat) : Int) = true := by
    rw [p3v, p2v, p1v _ (by omega), ins_lo ⟨by omega, by omega⟩, show h - 1 - (((h - 1 - k : Nat) : Int)).toNat = k by omega, ba]
    simp
    omega
  generalize hp4 : flp p3 ((h - 1 - k : Nat) : Int) = p4
  have p4v : ∀ v : Int, v ≠ ((h - 1 - k : Nat) : Int) → p4 v = p3 v := fun v hv => by rw [← hp4, flp_ne _ hv]
  have r5 := okRun_up (L := rows (h - k) k) (p := p4) (m := ((h - 1 - k : Nat) : Int)) (rows_up _ _) fun v hv => by
    have hv := mem_rows.mp hv
    refine ⟨?_, by omega⟩
    rw [p4v v (by omega), p3v, p2v, p1v v (by omega), ins_lo ⟨by omega, by omega⟩, bl _ (by omega)]
    rfl
  have m5 : endM ((h - 1 - k : Nat) : Int) (rows (h - k) k) = ((h - 1 : Nat) : Int) := by
    cases k with
    | zero => rfl
    | succ k =>
      rw [rows_s, endM_app]
      show ((h - (k + 1) + k : Nat) : Int) = _
      congr 1
      omega
  generalize hp5 : endP p4 (rows (h - k) k) = p5 at *
  have p5v : ∀ v : Int, p5 v = (p4 v || decide (((h - k : Nat) : Int) ≤ v ∧ v < (h - k : Nat) + k)) := fun v => by
    rw [r5.2 v]
    congr 1
    simp only [mem_rows]
  have r6 := okRun_up (L := rows h s) (p := p5) (m := ((h - 1 : Nat) : Int)) (rows_up _ _) fun v hv => by
    have hv := mem_rows.mp hv
    refine ⟨?_, by omega⟩
    have c1 : ¬ (((h - k : Nat) : Int) ≤ v ∧ v < (h - k : Nat) + k) := by omega
    have c2 : (h : Int) ≤ v ∧ v < h + s := by omega
    rw [p5v, p4v v (by omega), p3v, decide_eq_false c1, decide_eq_true c2]
    simp
  have m6 : endM ((h - 1 : Nat) : Int) (rows h s) = ((h + s : Nat) - 1 : Int) := by
    rcases (show s = 0 ∨ s = 1 by omega) with rfl | rfl
    · show ((h - 1 : Nat) : Int) = _
      omega
    · show ((h + 0 : Nat) : Int) = _
      omega
  refine ⟨okRun_app ⟨.inl ⟨q1, by omega⟩, trivial⟩ ?_, ?_, ?_⟩
  · show okRun (flp (insI h s r) _) _ _
    rw [hp1]
    refine okRun_app r2.1 ?_
    rw [hp2, show endM (endM _ [((h + s + k : Nat) : Int)]) (rows (h + s) k).reverse = ((h + s : Nat) : Int) from m2]
    refine okRun_app r3.1 ?_
    rw [hp3, m3]
    refine okRun_app ⟨.inr ⟨q4, by omega⟩, trivial⟩ ?_
    show okRun (flp p3 _) _ _
    rw [hp4]
    refine okRun_app r5.1 ?_
    rw [hp5, show endM (endM _ [((h - 1 - k : Nat) : Int)]) (rows (h - k) k) = ((h - 1 : Nat) : Int) from m5]
    exact r6.1
  · have ee : endP (insI h s r) ([((h + s + k : Nat) : Int)] ++ ((rows (h + s) k).reverse ++ (rows h s ++ ([((h - 1 - k : Nat) : Int)] ++ (rows (h - k) k ++ rows h s))))) = endP p5 (rows h s) := by
      rw [endP_app, show endP (insI h s r) [((h + s + k : Nat) : Int)] = p1 from hp1, endP_app, hp2, endP_app, hp3, endP_app, show endP p3 [((h - 1 - k : Nat) : Int)] = p4 from hp4, endP_app, hp5]
    rw [ee]
    funext v
    have r6v := r6.2 v
    have r6v : endP p5 (rows h s) v = (p5 v || decide ((h : Int) ≤ v ∧ v < h + s)) := by
      rw [r6v]
      congr 1
      simp only [mem_rows]
    rw [r6v, p5v]
    by_cases a1 : (h : Int) ≤ v ∧ v < h + s
    · rw [decide_eq_true a1, ins_mid a1, Bool.or_true]
    rw [decide_eq_false a1, Bool.or_false]
    by_cases a2 : (h : Int) + s ≤ v ∧ v < 2 * h + s
    · have c1 : ¬ (((h - k : Nat) : Int) ≤ v ∧ v < (h - k : Nat) + k) := by omega
      rw [decide_eq_false c1, Bool.or_false, p4v v (by omega), p3v, decide_eq_false a1, Bool.not_false, Bool.and_true, p2v, ins_hi a2, bn]
      by_cases c2 : v = ((h + s + k : Nat) : Int)
      · have c3 : ¬ (((h + s : Nat) : Int) ≤ v ∧ v < (h + s : Nat) + k) := by omega
        have e5 : p1 v = true := by rw [← hp1, c2, flp_at, q1]; rfl
        rw [decide_eq_false c3, e5, show v.toNat - (h + s) = k by omega, if_pos (Nat.le_refl _), ba]
        rfl
      · rw [p1v v c2, ins_hi a2]
        by_cases c3 : ((h + s : Nat) : Int) ≤ v ∧ v < (h + s : Nat) + k
        · rw [decide_eq_true c3, if_pos (by omega), bl _ (by omega)]
          rfl
        · rw [decide_eq_false c3, if_neg (by omega)]
          simp
    · by_cases a3 : 0 ≤ v ∧ v < h
      · rw [ins_lo a3, bn]
        have c0 : ¬ (((h + s : Nat) : Int) ≤ v ∧ v < (h + s : Nat) + k) := by omega
        by_cases c2 : v = ((h - 1 - k : Nat) : Int)
        · have c3 : ¬ (((h - k : Nat) : Int) ≤ v ∧ v < (h - k : Nat) + k) := by omega
          have e5 : p4 v = false := by rw [← hp4, c2, flp_at, q4]; rfl
          rw [decide_eq_false c3, e5, show h - 1 - v.toNat = k by omega, if_pos (Nat.le_refl _), ba]
          rfl
        · rw [p4v v c2, p3v, decide_eq_false a1, p2v, decide_eq_false c0, p1v v (by omega), ins_lo a3]
          by_cases c3 : ((h - k : Nat) : Int) ≤ v ∧ v < (h - k : Nat) + k
          · rw [decide_eq_true c3, if_pos (by omega), bl _ (by omega)]
            rfl
          · rw [decide_eq_false c3, if_neg (by omega)]
            simp
      · have c1 : ¬ (((h - k : Nat) : Int) ≤ v ∧ v < (h - k : Nat) + k) := by omega
        rw [decide_eq_false c1, ins_out (by omega), Bool.or_false, p4v v (by omega), p3v, p2v, p1v v (by omega), ins_out (by omega)]
        rfl
  · rw [endM_app, endM_app, endM_app, endM_app, endM_app]
    rw [show endM (endM ((h + s : Nat) - 1 : Int) [((h + s + k : Nat) : Int)]) (rows (h + s) k).reverse = ((h + s : Nat) : Int) from m2, m3]
    rw [show endM (endM (h : Int) [((h - 1 - k : Nat) : Int)]) (rows (h - k) k) = ((h - 1 : Nat) : Int) from m5, m6]
end Y
/-! W, part M: the long row of folk. -/
namespace Y
open PySem L2 PyProof.Rows
def rndsI (h s r : Nat) : List Int := (List.range r).flatMap fun i => rndI h s (1 + lowN i)
theorem rnds_s (h s r : Nat) : rndsI h s (r + 1) = rndsI h s r ++ rndI h s (1 + lowN r) := by simp [rndsI, List.range_succ, List.flatMap_append]
theorem rnds_0 (h s : Nat) : rndsI h s 0 = [] := rfl
theorem rnds_run {h s : Nat} (hs : s < 2) : ∀ {r : Nat}, r < 2 ^ h → okRun (insI h s 0) ((h + s : Nat) - 1 : Int) (rndsI h s r) ∧ endP (insI h s 0) (rndsI h s r) = insI h s r ∧ endM ((h + s : Nat) - 1 : Int) (rndsI h s r) = ((h + s : Nat) - 1 : Int)
  | 0, _ => ⟨trivial, rfl, rfl⟩
  | r + 1, hr => by
    obtain ⟨a, b, c⟩ := rnds_run (h := h) hs (r := r) (by omega)
    obtain ⟨d, e, f⟩ := rnd_run (r := r) hs hr
    rw [rnds_s]
    refine ⟨okRun_app a (by rw [b, c]; exact d), by rw [endP_app, b, e], by rw [endM_app, c, f]⟩
theorem rndI_len (h s k : Nat) : (rndI h s k).length = 2 * k + 2 * s := by
  simp only [rndI, List.length_append, List.length_reverse, rows_len]
  omega
theorem rnds_len (h s : Nat) : ∀ r : Nat, (rndsI h s r).length + 2 * onesN r = 4 * r + 2 * s * r
  | 0 => by simp [rndsI, onesN]
  | r + 1 => by
    have := rnds_len h s r
    have := ones_next r
    rw [rnds_s, List.length_append, rndI_len, Nat.mul_add (2 * s) r 1]
    omega
theorem range_split (a c : Nat) : List.range (a + 1 + c) = List.range a ++ a :: (List.range c).map fun i => a + 1 + i := by
  rw [List.range_add, List.range_succ]
  simp
theorem rnds_dbl (h s k : Nat) : rndsI h s (2 ^ (k + 1) - 1) = rndsI h s (2 ^ k - 1) ++ rndI h s (k + 1) ++ rndsI h s (2 ^ k - 1) := by
  have h1 := pow1 k
  have e : 2 ^ (k + 1) - 1 = (2 ^ k - 1) + 1 + (2 ^ k - 1) := by rw [pow2]; omega
  rw [rndsI, e, range_split, List.flatMap_append, List.flatMap_cons, low_ones, Nat.add_comm 1 k, List.flatMap_map]
  rw [List.append_assoc]
  congr 2
  rw [rndsI]
  simp only [List.flatMap_def]
  congr 1
  refine List.map_congr_left fun i hi => ?_
  have hi := List.mem_range.mp hi
  rw [show 2 ^ k - 1 + 1 + i = 2 ^ k + i by omega, low_add k i (by omega)]
theorem rnds_rest (h s : Nat) {r : Nat} : ∀ {z : Nat}, r ≤ z → ∃ t, rndsI h s z = rndsI h s r ++ t := by
  intro z hz
  induction z with
  | zero => exact ⟨[], by rw [show r = 0 by omega]; simp⟩
  | succ z ih =>
    by_cases c : r = z + 1
    · exact ⟨[], by rw [c]; simp⟩
    · obtain ⟨t, ht⟩ := ih (by omega)
      exact ⟨t ++ rndI h s (1 + lowN z), by rw [rnds_s, ht, List.append_assoc]⟩
theorem rndI_mem {h s k : Nat} (hk : k ≤ h) {v : Int} (hv : v ∈ rndI h s k) : 0 ≤ v ∧ v < 2 * h + s := by
  simp only [rndI, List.mem_append, List.mem_reverse, mem_rows] at hv
  omega
theorem rnds_mem {h s : Nat} : ∀ {r : Nat}, r < 2 ^ h → ∀ v ∈ rndsI h s r, 0 ≤ v ∧ v < 2 * h + s
  | 0, _, v, hv => by simp [rndsI] at hv
  | r + 1, hr, v, hv => by
    rw [rnds_s, List.mem_append] at hv
    rcases hv with hv | hv
    · exact rnds_mem (by omega) v hv
    · have := low_lt hr
      exact rndI_mem (by omega) hv
theorem endP_not {v : Int} : ∀ {G : List Int} {p : Int → Bool}, ¬ v ∈ G → endP p G v = p v
  | [], _, _ => rfl
  | w :: G, p, h => by
    rw [endP_c, endP_not fun c => h (List.mem_cons_of_mem _ c), flp_ne p fun c => h (by rw [c]; exact List.mem_cons_self)]
section
variable {F : List Int}
/-- the one of that rank -/
def gF (F : List Int) (i : Int) : Int := F.getD i.toNat 0
theorem gF_at {i : Nat} (h : i < F.length) : gF F i = F[i] := by
  simp only [gF, Int.toNat_natCast]
  rw [List.getD_eq_getElem?_getD, List.getElem?_eq_getElem h]; rfl
theorem gF_lt (hF : F.Pairwise (· < ·)) {i j : Int} (h0 : 0 ≤ i) (h1 : i < j) (h2 : j < F.length) : gF F i < gF F j := by
  obtain ⟨a, rfl⟩ := Int.eq_ofNat_of_zero_le h0
  obtain ⟨b, rfl⟩ := Int.eq_ofNat_of_zero_le (show 0 ≤ j by omega)
  rw [gF_at (by omega), gF_at (by omega)]
  exact List.pairwise_iff_getElem.mp hF _ _ _ _ (by omega)
theorem gF_inj (hF : F.Pairwise (· < ·)) {i j : Int} (h0 : 0 ≤ i) (h1 : i < F.length) (h2 : 0 ≤ j) (h3 : j < F.length) (e : gF F i = gF F j) : i = j := by
  rcases Int.lt_trichotomy i j with c | c | c
  · have := gF_lt hF h0 c h3
    omega
  · exact c
  · have := gF_lt hF h2 c h1
    omega
theorem gF_mem {i : Int} (h0 : 0 ≤ i) (h1 : i < F.length) : gF F i ∈ F := by
  obtain ⟨a, rfl⟩ := Int.eq_ofNat_of_zero_le h0
  rw [gF_at (by omega)]
  exact List.getElem_mem _
theorem gF_of {v : Int} (h : v ∈ F) : ∃ i : Nat, i < F.length ∧ gF F i = v ∧ F.idxOf v = i := by
  have := List.idxOf_lt_length_iff.mpr h
  exact ⟨F.idxOf v, this, by rw [gF_at this, List.getElem_idxOf], rfl⟩
theorem idx_gF (hF : F.Pairwise (· < ·)) {i : Int} (h0 : 0 ≤ i) (h1 : i < F.length) : ((F.idxOf (gF F i) : Nat) : Int) = i := by
  obtain ⟨j, hj, e, e2⟩ := gF_of (gF_mem h0 h1)
  rw [e2]
  exact gF_inj hF (by omega) (by omega) h0 h1 e
theorem okRun_map (hF : F.Pairwise (· < ·)) : ∀ {I : List Int} {q p : Int → Bool} {m : Int}, (∀ i : Int, 0 ≤ i → i < F.length → q i = p (gF F i)) → (∀ i ∈ I, 0 ≤ i ∧ i < F.length) → 0 ≤ m → m < F.length → okRun q m I →
    okRun p (gF F m) (I.map (gF F)) ∧ (∀ i : Int, 0 ≤ i → i < F.length → endP q I i = endP p (I.map (gF F)) (gF F i)) ∧ endM (gF F m) (I.map (gF F)) = gF F (endM m I)
  | [], q, p, m, hq, _, _, _, _ => ⟨trivial, hq, rfl⟩
  | w :: I, q, p, m, hq, hI, m0, m1, hr => by
    obtain ⟨h1, h2⟩ := hr
    obtain ⟨w0, w1⟩ := hI w List.mem_cons_self
    have hq' : ∀ i : Int, 0 ≤ i → i < F.length → flp q w i = flp p (gF F w) (gF F i) := fun i i0 i1 => by
      by_cases c : i = w
      · subst c
        rw [flp_at, flp_at, hq i i0 i1]
      · rw [flp_ne q c, flp_ne p fun e => c (gF_inj hF i0 i1 w0 w1 e)]
        exact hq i i0 i1
    obtain ⟨a, b, c⟩ := okRun_map hF (I := I) hq' (fun i hi => hI i (List.mem_cons_of_mem _ hi)) w0 w1 h2
    refine ⟨⟨?_, a⟩, b, c⟩
    rcases h1 with ⟨x, y⟩ | ⟨x, y⟩
    · exact .inl ⟨by rw [← hq w w0 w1]; exact x, gF_lt hF m0 y w1⟩
    · exact .inr ⟨by rw [← hq w w0 w1]; exact x, gF_lt hF w0 y m1⟩
def hfN (F : List Int) : Nat := F.length / 2
def spN (F : List Int) : Nat := F.length % 2
theorem hf_len (F : List Int) : 2 * hfN F + spN F = F.length := by simp only [hfN, spN]; omega
theorem sp_lt (F : List Int) : spN F < 2 := by simp only [spN]; omega
/-- who is beyond behind r rounds -/
def insF (F : List Int) (r : Nat) (v : Int) : Bool := decide (v ∈ F) && insI (hfN F) (spN F) r (F.idxOf v)
theorem insF_g (hF : F.Pairwise (· < ·)) {r : Nat} {i : Int} (h0 : 0 ≤ i) (h1 : i < F.length) : insF F r (gF F i) = insI (hfN F) (spN F) r i := by
  rw [insF, decide_eq_true (gF_mem h0 h1), idx_gF hF h0 h1]
  rfl
def rndF (F : List Int) (k : Nat) : List Int := (rndI (hfN F) (spN F) k).map (gF F)
def rndsF (F : List Int) (r : Nat) : List Int := (rndsI (hfN F) (spN F) r).map (gF F)
/-- how many goings till so many rounds are done -/
def bhN (F : List Int) (r : Nat) : Nat := hfN F + spN F + (rndsF F r).length
/-- the long row -/
def wholeF (F : List Int) : List Int := F.take (hfN F + spN F) ++ rndsF F (2 ^ hfN F - 1)
def begF (F : List Int) (r : Nat) : List Int := F.take (hfN F + spN F) ++ rndsF F r
theorem beg_len (F : List Int) (r : Nat) : (begF F r).length = bhN F r := by
  have := hf_len F
  rw [begF, List.length_append, List.length_take, bhN]
  omega
theorem beg_s (F : List Int) (r : Nat) : begF F (r + 1) = begF F r ++ rndF F (1 + lowN r) := by
  rw [begF, rndsF, rnds_s, List.map_append, ← List.append_assoc]; rfl
theorem bh_s (F : List Int) (r : Nat) : bhN F (r + 1) = bhN F r + (2 * (1 + lowN r) + 2 * spN F) := by
  rw [← beg_len, beg_s, List.length_append, beg_len, rndF, List.length_map, rndI_len]
theorem bh_eq (F : List Int) (r : Nat) : (bhN F r : Int) = ((hfN F : Int) + spN F) + 2 * (2 * (r : Int) - onesN r) + 2 * spN F * r := by
  have := rnds_len (hfN F) (spN F) r
  rw [bhN, rndsF, List.length_map]
  have e : (2 : Int) * (spN F : Int) * (r : Int) = ((2 * spN F * r : Nat) : Int) := by simp
  rw [e]
  omega
theorem bh_le (F : List Int) {r : Nat} : ∀ {z : Nat}, r ≤ z → bhN F r ≤ bhN F z := by
  intro z hz
  induction z with
  | zero => rw [show r = 0 by omega]; omega
  | succ z ih =>
    by_cases c : r = z + 1
    · rw [c]; omega
    · have := ih (by omega)
      rw [bh_s]; omega
theorem bh_lt (F : List Int) {r z : Nat} (h : r < z) : bhN F r < bhN F z := by
  have := bh_le F (show r + 1 ≤ z by omega)
  rw [bh_s] at this
  omega
theorem beg_0 (F : List Int) : begF F 0 = F.take (hfN F + spN F) := by simp [begF, rndsF, rnds_0]
theorem whole_at (F : List Int) {r : Nat} (hr : r < 2 ^ hfN F) : ∃ t, wholeF F = begF F r ++ t := by
  obtain ⟨t, ht⟩ := rnds_rest (hfN F) (spN F) (r := r) (z := 2 ^ hfN F - 1) (by omega)
  exact ⟨t.map (gF F), by rw [wholeF, rndsF, ht, List.map_append, ← List.append_assoc]; rfl⟩
theorem whole_len (F : List Int) : (wholeF F).length = bhN F (2 ^ hfN F - 1) := beg_len F _
theorem take_len_app {A B : List Int} {n : Nat} (h : A.length ≤ n) : (A ++ B).take n = A ++ B.take (n - A.length) := by
  rw [List.take_append, List.take_of_length_le h]
/-- the row up to a place -/
theorem whole_take (F : List Int) {r p : Nat} (hr : r < 2 ^ hfN F) (h1 : bhN F r ≤ p) (h2 : r + 1 < 2 ^ hfN F → p ≤ bhN F (r + 1)) (h3 : p ≤ (wholeF F).length) : (wholeF F).take p = begF F r ++ (rndF F (1 + lowN r)).take (p - bhN F r) := by
  by_cases c : r + 1 < 2 ^ hfN F
  · obtain ⟨t, ht⟩ := whole_at F c
    have h2 := h2 c
    have hl := beg_len F (r + 1)
    rw [ht, List.take_append_of_le_length (by omega), beg_s, take_len_app (by rw [beg_len]; exact h1), beg_len]
  · have e : r = 2 ^ hfN F - 1 := by omega
    rw [whole_len, ← e] at h3
    have : p = bhN F r := by omega
    rw [this, Nat.sub_self, List.take_zero, List.append_nil, ← beg_len]
    have ew : wholeF F = begF F r := by rw [e]; rfl
    rw [ew, List.take_length]
theorem whole_get (F : List Int) {r p : Nat} (hr : r + 1 < 2 ^ hfN F) (h1 : bhN F r ≤ p) (h2 : p < bhN F (r + 1)) : (wholeF F)[p]? = (rndF F (1 + lowN r))[p - bhN F r]? := by
  obtain ⟨t, ht⟩ := whole_at F hr
  have hl := beg_len F (r + 1)
  rw [ht, List.getElem?_append_left (by omega), beg_s, List.getElem?_append_right (by rw [beg_len]; exact h1), beg_len]
theorem whole_first (F : List Int) {p : Nat} (h : p < hfN F + spN F) : (wholeF F)[p]? = F[p]? := by
  have := hf_len F
  rw [wholeF, List.getElem?_append_left (by rw [List.length_take]; omega), List.getElem?_take, if_pos h]
theorem long_run (hF : F.Pairwise (· < ·)) (pos : ∀ w ∈ F, 1 ≤ w) (hne : F ≠ []) {r : Nat} (hr : r < 2 ^ hfN F) :
    okRun (fun _ => false) 0 (begF F r) ∧ endP (fun _ => false) (begF F r) = insF F r ∧ endM 0 (begF F r) = gF F ((hfN F + spN F : Nat) - 1 : Int) := by
  have hl := hf_len F
  have hs := sp_lt F
  have hn : 0 < F.length := List.length_pos_iff.mpr hne
  have sub := List.take_sublist (hfN F + spN F) F
  have up := okRun_up (L := F.take (hfN F + spN F)) (p := fun _ => false) (m := 0) (hF.sublist sub) fun v hv => ⟨rfl, by have := pos v (sub.subset hv); omega⟩
  have e0 : endP (fun _ => false) (F.take (hfN F + spN F)) = insF F 0 := by
    funext v
    rw [up.2 v, Bool.false_or]
    by_cases hv : v ∈ F
    · obtain ⟨i, hi, e1, e2⟩ := gF_of hv
      rw [← e1, insF_g hF (by omega) (by omega)]
      have hm : gF F i ∈ F.take (hfN F + spN F) ↔ i < hfN F + spN F := by
        constructor
        · intro hm
          obtain ⟨j, hj, e⟩ := List.mem_iff_getElem.mp hm
          rw [List.length_take] at hj
          rw [List.getElem_take, ← gF_at (F := F) (by omega)] at e
          have := gF_inj hF (by omega) (by omega) (by omega) (by omega) e
          omega
        · intro hm
          refine List.mem_iff_getElem.mpr ⟨i, by rw [List.length_take]; omega, ?_⟩
          rw [List.getElem_take, gF_at hi]
      by_cases c : i < hfN F + spN F
      · rw [decide_eq_true (hm.mpr c)]
        by_cases c2 : i < hfN F
        · rw [ins_lo ⟨by omega, by omega⟩, bit_zero]; rfl
        · rw [ins_mid ⟨by omega, by omega⟩]
      · rw [decide_eq_false fun q => c (hm.mp q), ins_hi ⟨by omega, by omega⟩, bit_zero]
    · rw [insF, decide_eq_false hv, decide_eq_false fun q => hv (sub.subset q)]
      rfl
  have m0 : endM 0 (F.take (hfN F + spN F)) = gF F ((hfN F + spN F : Nat) - 1 : Int) := by
    have hne2 : F.take (hfN F + spN F) ≠ [] := fun c => by
      have := congrArg List.length c
      rw [List.length_take, List.length_nil] at this
      omega
    rw [endM_last hne2]
    rw [show ((hfN F + spN F : Nat) - 1 : Int) = ((hfN F + spN F - 1 : Nat) : Int) by omega, gF_at (by omega)]
    rw [List.getLastD_eq_getLast?, List.getLast?_eq_getElem?, List.length_take, List.getElem?_take, if_pos (by omega), show min (hfN F + spN F) F.length - 1 = hfN F + spN F - 1 by omega, List.getElem?_eq_getElem (by omega)]
    rfl
  obtain ⟨a, b, c⟩ := rnds_run (h := hfN F) hs hr
  obtain ⟨d, e, f⟩ := okRun_map hF (I := rndsI (hfN F) (spN F) r) (q := insI (hfN F) (spN F) 0) (p := insF F 0) (m := ((hfN F + spN F : Nat) - 1 : Int)) (fun i i0 i1 => (insF_g hF i0 i1).symm) (fun i hi => by
    have := rnds_mem hr i hi
    omega) (by omega) (by omega) a
  refine ⟨okRun_app up.1 (by rw [e0, m0]; exact d), ?_, ?_⟩
  · rw [begF, endP_app, e0]
    funext v
    by_cases hv : v ∈ F
    · obtain ⟨i, hi, e1, e2⟩ := gF_of hv
      rw [← e1, insF_g hF (by omega) (by omega), ← b]
      exact (e i (by omega) (by omega)).symm
    · have hnot : ¬ v ∈ rndsF F r := fun q => by
        obtain ⟨i, hi, rfl⟩ := List.mem_map.mp q
        have := rnds_mem hr i hi
        exact hv (gF_mem (by omega) (by omega))
      rw [rndsF] at hnot ⊢
      rw [endP_not hnot, insF, insF, decide_eq_false hv]
      rfl
  · rw [begF, endM_app, m0]
    show endM _ (rndsF F r) = _
    rw [rndsF, f, c]
theorem whole_run (hF : F.Pairwise (· < ·)) (pos : ∀ w ∈ F, 1 ≤ w) (hne : F ≠ []) : okRun (fun _ => false) 0 (wholeF F) := (long_run hF pos hne (r := 2 ^ hfN F - 1) (by have := pow1 (hfN F); omega)).1
theorem okRun_part : ∀ {L G : List Int} {p : Int → Bool} {m : Int}, okRun p m (L ++ G) → okRun p m L ∧ okRun (endP p L) (endM m L) G
  | [], _, _, _, h => ⟨trivial, h⟩
  | w :: L, G, p, m, h => by
    obtain ⟨h1, h2⟩ := h
    obtain ⟨a, b⟩ := okRun_part h2
    exact ⟨⟨h1, a⟩, b⟩
theorem whole_in (hF : F.Pairwise (· < ·)) {w : Int} (hw : w ∈ wholeF F) : w ∈ F := by
  have hl := hf_len F
  rw [wholeF, List.mem_append] at hw
  rcases hw with hw | hw
  · exact List.mem_of_mem_take hw
  · obtain ⟨i, hi, rfl⟩ := List.mem_map.mp hw
    have := rnds_mem (h := hfN F) (r := 2 ^ hfN F - 1) (by have := pow1 (hfN F); omega) i hi
    exact gF_mem (by omega) (by omega)
theorem cut_rows {F : List Int} {a k : Nat} (h : a + k ≤ F.length) : (F.drop a).take k = (rows a k).map (gF F) := by
  apply List.ext_getElem
  · rw [List.length_take, List.length_drop, List.length_map, rows_len]; omega
  · intro i h1 h2
    rw [List.length_map, rows_len] at h2
    rw [List.getElem_take, List.getElem_drop, List.getElem_map]
    simp only [rows, List.getElem_map, List.getElem_range]
    rw [gF_at (by omega)]
theorem rows_rev (a k : Nat) : (rows a k).reverse = (List.range k).map fun j : Nat => ((a : Int) + ((k : Int) - j) - 1) := by
  apply List.ext_getElem
  · rw [List.length_reverse, rows_len, List.length_map, List.length_range]
  · intro i h1 h2
    rw [List.length_map, List.length_range] at h2
    rw [List.getElem_reverse]
    simp only [rows, List.getElem_map, List.getElem_range, List.length_map, List.length_range]
    omega
theorem erase_perm : ∀ {L : List Int} {j : Nat} (h : j < L.length), (L[j] :: L.eraseIdx j).Perm L
  | a :: L, 0, _ => List.Perm.refl _
  | a :: L, j + 1, h => by
    simp only [List.getElem_cons_succ, List.eraseIdx_cons_succ]
    exact (List.Perm.swap a _ _).trans ((erase_perm (L := L) (j := j) (by simpa using h)).cons a)
theorem erase_map : ∀ {L : List Int} {j : Nat}, (L.map Dt.i).eraseIdx j = (L.eraseIdx j).map Dt.i
  | [], _ => rfl
  | a :: L, 0 => rfl
  | a :: L, j + 1 => by simp [erase_map (L := L) (j := j)]
end
theorem flp_perm {L : List Int} {q : Int → Bool} {w : Int} (hq : ∀ v, v ∈ L ↔ q v = true) (hn : L.Nodup) : (∀ v, v ∈ (if w ∈ L then L.filter fun v => decide (v ≠ w) else L ++ [w]) ↔ flp q w v = true) ∧ (if w ∈ L then L.filter fun v => decide (v ≠ w) else L ++ [w]).Nodup := by
  by_cases c : w ∈ L
  · rw [if_pos c]
    refine ⟨fun v => ?_, hn.filter _⟩
    rw [List.mem_filter, decide_eq_true_eq]
    by_cases e : v = w
    · subst e
      rw [flp_at, (hq v).mp c]
      simp
    · rw [flp_ne q e, hq v]
      simp [e]
  · rw [if_neg c]
    refine ⟨fun v => ?_, ?_⟩
    · rw [List.mem_append, List.mem_singleton]
      by_cases e : v = w
      · subst e
        have : q v = false := by
          rw [← Bool.not_eq_true]
          exact fun z => c ((hq v).mpr z)
        rw [flp_at, this]
        simp
      · rw [flp_ne q e, hq v]
        simp [e]
    · rw [List.nodup_append]
      refine ⟨hn, by simp, fun a ha b hb e => ?_⟩
      rw [List.mem_singleton] at hb
      subst hb
      exact c (e ▸ ha)
/-- who is beyond behind r rounds, as the program lays it -/
def insL (F : List Int) (r k : Nat) : List Int := (rows (hfN F) (spN F)).map (gF F) ++ (List.range k).map fun j : Nat => if bitN r j then gF F ((hfN F : Int) + spN F + j) else gF F ((hfN F : Int) - 1 - j)
theorem insL_s (F : List Int) (r k : Nat) : insL F r (k + 1) = insL F r k ++ [if bitN r k then gF F ((hfN F : Int) + spN F + k) else gF F ((hfN F : Int) - 1 - k)] := by
  rw [insL, insL, List.range_succ, List.map_append, List.append_assoc]; rfl
theorem insL_mem {F : List Int} (hF : F.Pairwise (· < ·)) {r : Nat} {v : Int} : v ∈ insL F r (hfN F) ↔ insF F r v = true := by
  have hlen := hf_len F
  constructor
  · intro h
    rw [insL, List.mem_append] at h
    rcases h with h | h
    · obtain ⟨i, hi, rfl⟩ := List.mem_map.mp h
      have hi := mem_rows.mp hi
      rw [insF_g hF (by omega) (by omega), ins_mid (by omega)]
    · obtain ⟨j, hj, e⟩ := List.mem_map.mp h
      have hj := List.mem_range.mp hj
      cases hb : bitN r j with
      | true =>
        rw [hb] at e
        simp only [if_true] at e
        rw [← e, insF_g hF (by omega) (by omega), ins_hi (by omega), show ((hfN F : Int) + spN F + j).toNat - (hfN F + spN F) = j by omega, hb]
      | false =>
        rw [hb] at e
        simp only [Bool.false_eq_true, if_false] at e
        rw [← e, insF_g hF (by omega) (by omega), ins_lo (by omega), show hfN F - 1 - ((hfN F : Int) - 1 - j).toNat = j by omega, hb]
        rfl
  · intro h
    have hv : v ∈ F := by
      rw [insF, Bool.and_eq_true, decide_eq_true_eq] at h
      exact h.1
    obtain ⟨i, hi, e1, e2⟩ := gF_of hv
    rw [← e1, insF_g hF (by omega) (by omega)] at h
    rw [← e1, insL, List.mem_append]
    by_cases c1 : i < hfN F
    · right
      rw [ins_lo (by omega), Int.toNat_natCast, Bool.not_eq_true'] at h
      refine List.mem_map.mpr ⟨hfN F - 1 - i, List.mem_range.mpr (by omega), ?_⟩
      rw [h]
      simp only [Bool.false_eq_true, if_false]
      congr 1
      omega
    · by_cases c2 : i < hfN F + spN F
      · left
        exact List.mem_map.mpr ⟨i, mem_rows.mpr (by omega), rfl⟩
      · right
        rw [ins_hi (by omega), Int.toNat_natCast] at h
        refine List.mem_map.mpr ⟨i - (hfN F + spN F), List.mem_range.mpr (by omega), ?_⟩
        rw [h]
        simp only [if_true]
        congr 1
        omega
theorem insL_nd {F : List Int} (hF : F.Pairwise (· < ·)) {r : Nat} : (insL F r (hfN F)).Nodup := by
  have hlen := hf_len F
  rw [insL, List.nodup_append]
  have inj : ∀ {i j : Int}, 0 ≤ i → i < F.length → 0 ≤ j → j < F.length → gF F i = gF F j → i = j := fun a b c d e => gF_inj hF a b c d e
  refine ⟨?_, ?_, ?_⟩
  · rw [List.Nodup, List.pairwise_map]
    refine (List.Pairwise.and_mem.mp (rows_up _ _)).imp fun h e => ?_
    have h1 := mem_rows.mp h.1
    have h2 := mem_rows.mp h.2.1
    have := inj (by omega) (by omega) (by omega) (by omega) e
    omega
  · rw [List.Nodup, List.pairwise_map]
    refine (List.Pairwise.and_mem.mp List.pairwise_lt_range).imp fun {i j} h e => ?_
    have h1 := List.mem_range.mp h.1
    have h2 := List.mem_range.mp h.2.1
    have h3 := h.2.2
    split at e <;> split at e
    all_goals
      have := inj (by omega) (by omega) (by omega) (by omega) e
      omega
  · intro a ha b hb e
    obtain ⟨i, hi, rfl⟩ := List.mem_map.mp ha
    obtain ⟨j, hj, rfl⟩ := List.mem_map.mp hb
    have hi := mem_rows.mp hi
    have hj := List.mem_range.mp hj
    split at e
    all_goals
      have := inj (by omega) (by omega) (by omega) (by omega) e
      omega
theorem take_rows {F : List Int} {k : Nat} (h : k ≤ F.length) : F.take k = (rows 0 k).map (gF F) := by
  have := cut_rows (F := F) (a := 0) (k := k) (by omega)
  rwa [List.drop_zero] at this
end Y
/-! W, part N: a list within owned lists turned round. -/
namespace Y
open PySem L2 PyProof.Rows
theorem wS_revN {i : Nat} {fs : List (Ev → Ou Vl)} {r r1 : Ev} {x0 x' : Dt} {ks : List Int} {ys : List Dt} {Qn : Ev → Prop} {Qr : Vl → Ev → Prop} {Qb Qc : Ev → Prop} (h0 : r[i]? = some (some (x0, .a))) (h1 : evK fs (r.set i none) = some (ks, r1)) (h2 : getP x0 ks = some (.l ys)) (h3 : flatL ys = true) (h4 : rvP x0 ks = some x') (q : Qn (r1.set i (some (x', .a)))) : wS (sRevN i fs) r Qn Qr Qb Qc := by
  unfold wS
  simp only [sRevN, h0, h1, h2, h3, h4, if_true]
  exact q
end Y
namespace YL
open PySem L2 PyProof.Rows Y
/-! the text by places -/
def top (i : Nat) : Stmt := PySem.Challenge.pw_sortdoors_k18_the_long_row_of_few.main.body.getD i (.Pass ⟨0, 0, 0, 0⟩)
/-! mirrors -/
noncomputable def m__law_folded : Ev → So :=
  sSeq (sAsg (mP fList [.e (mSl (.v 0) none (some (mV 1)))]) (tgV 2)) (
  sSeq (sFor (mS sEnum [.e (mSl (.v 0) (some (mV 1)) (some (mK (.i 63))))]) (tgT [(tgV 3), (tgV 4)]) (
  sAsg (mP fAdd [.e (mP fIx [.v 2, .e (mP fMod [.v 3, .v 1])]), .e (mP fMul [.v 4, .e (mP fAdd [.v 3, .e (mK (.i 2))])])]) (tgI 2 (mP fMod [.v 3, .v 1])))) (
  sRetV 2))
@[irreducible] noncomputable def fn__law_folded : Fn := mkFn false 5 m__law_folded
noncomputable def m__law_draw : Ev → So :=
  sSeq (sIf (mTe (mP fGt [.e (mP fIx [.v 0, .e (mK (.i 0))]), .e (mK (.i 0))])) (
  sSeq (sAsg (mP fMod [.e (mP fIx [.v 0, .e (mK (.i 0))]), .v 1]) (tgV 2)) (
  sSeq (sAsg (mP fDiv [.e (mP fIx [.v 0, .e (mK (.i 0))]), .v 1]) (tgI 0 (mK (.i 0)))) (
  sRetV 2))) (sNx)) (
  sSeq (sAsg (mP fAdd [.e (mP fIx [.v 0, .e (mK (.i 2))]), .e (mK (.i 1))]) (tgI 0 (mK (.i 2)))) (
  sSeq (sAsg (mP fMod [.e (mP fPow [.e (mP fAdd [.e (mP fIx [.v 0, .e (mK (.i 1))]), .e (mP fMul [.e (mK (.i 39373)), .e (mP fIx [.v 0, .e (mK (.i 2))])])]), .e (mK (.i 5))]), .e (mK (.i 2147483647))]) (tgV 3)) (
  sSeq (sAsg (mP fMod [.e (mP fMul [.e (mP fAdd [.v 3, .e (mP fIx [.v 0, .e (mK (.i 2))])]), .e (mP fAdd [.e (mP fAdd [.e (mP fMod [.v 3, .e (mK (.i 40009))]), .e (mK (.i 7))]), .e (mP fIx [.v 0, .e (mK (.i 2))])])]), .e (mK (.i 2147483629))]) (tgV 4)) (
  sSeq (sAsg (mP fMod [.e (mP fAdd [.e (mP fAdd [.e (mP fDiv [.e (mP fIx [.v 0, .e (mK (.i 1))]), .e (mK (.i 2147483647))]), .e (mP fMul [.v 4, .e (mK (.i 40009))])]), .e (mP fIx [.v 0, .e (mK (.i 2))])]), .e (mK (.i 2305843009213693951))]) (tgV 5)) (
  sRet (mP fMod [.e (mP fDiv [.e (mP fMod [.e (mP fAdd [.e (mP fAdd [.e (mP fMul [.v 4, .e (mK (.i 48271))]), .e (mP fMul [.v 5, .e (mK (.i 39373))])]), .v 3]), .e (mK (.i 2305843009213693921))]), .e (mK (.i 64))]), .v 1]))))))
@[irreducible] noncomputable def fn__law_draw : Fn := mkFn true 6 m__law_draw
noncomputable def m__law_part : Ev → So :=
  sSeq (sAsg (mP fList [.v 1]) (tgV 3)) (
  sRet (mLc false [4] (mS sRng1 [.v 2]) (tgV 4) (mYes) (mPop 3 (mCI fn__law_draw 0 [.e (mP fLen [.v 3])]))))
@[irreducible] noncomputable def fn__law_part : Fn := mkFn true 5 m__law_part
noncomputable def m__law_same (g : Fn) : Ev → So :=
  sSeq (sIf (mTe (mP (fIsi ["list", "tuple"]) [.v 1])) (
  sSeq (sIf (mOr (mTe (mP fNe [.e (mP (fIsi ["list"]) [.v 0]), .e (mP (fIsi ["list"]) [.v 1])])) (mTe (mP fNe [.e (mP (fIsi ["tuple"]) [.v 0]), .e (mP (fIsi ["tuple"]) [.v 1])]))) (
  sRet (mK (.b false))) (sNx)) (
  sRet (mAndV (mP fEq [.e (mP fLen [.v 0]), .e (mP fLen [.v 1])]) (mP fAll [.e (mLc false [2, 3] (mS sZip [.v 0, .v 1]) (tgT [(tgV 2), (tgV 3)]) (mYes) (mC g [.v 2, .v 3]))])))) (sNx)) (
  sSeq (sIf (mOr (mTe (mP fIs [.v 1, .e (mK .n)])) (mTe (mP (fIsi ["str", "bool"]) [.v 1]))) (
  sRet (mAndV (mP fEq [.e (mP (fIsi ["bool"]) [.v 0]), .e (mP (fIsi ["bool"]) [.v 1])]) (mP fEq [.v 0, .v 1]))) (sNx)) (
  sRet (mAndV (mP (fIsi ["int"]) [.v 0]) (mAndV (mNotV (mP (fIsi ["bool"]) [.v 0])) (mP fEq [.v 0, .v 1])))))
noncomputable def fr__law_same : Nat → Fn
  | 0 => fnNo
  | d + 1 => mkFn false 4 (m__law_same (fr__law_same d))
@[irreducible] noncomputable def fn__law_same (d : Nat) : Fn := fr__law_same d
theorem fn__law_same_0 : fn__law_same 0 = fnNo := by unfold fn__law_same; rfl
theorem fn__law_same_s (d : Nat) : fn__law_same (d + 1) = mkFn false 4 (m__law_same (fn__law_same d)) := by unfold fn__law_same; rfl
noncomputable def m__law_weights : Ev → So :=
  sSeq (sPar [2, 3] [mP fIx [.e (mP fLst [.e (mK (.i 1)), .e (mK (.i 1)), .e (mK (.i 3)), .e (mK (.i 1000)), .e (mP fPow [.e (mK (.i 10)), .e (mK (.i 9))])]), .e (mCI fn__law_draw 0 [.e (mK (.i 5))])], mP fLst []]) (
  sSeq (sAsg (mP fIx [.e (mP fLst [.e (mK (.i 0)), .e (mK (.i 0)), .e (mCI fn__law_draw 0 [.e (mK (.i 50))]), .e (mP fSub [.e (mP fPow [.e (mK (.i 10)), .e (mK (.i 12))]), .e (mP fMul [.e (mK (.i 42)), .v 2])])]), .e (mCI fn__law_draw 0 [.e (mK (.i 4))])]) (tgV 4)) (
  sSeq (sFor (mS sRng1 [.v 1]) (tgV 5) (
  sSeq (sAsg (mP fAdd [.e (mP fAdd [.v 4, .e (mK (.i 1))]), .e (mCI fn__law_draw 0 [.v 2])]) (tgV 4)) (
  sAppG 3 (mV 4)))) (
  sRetV 3)))
@[irreducible] noncomputable def fn__law_weights : Fn := mkFn true 6 m__law_weights
noncomputable def m__law_parts : Ev → So :=
  sSeq (sAsg (mP fDiv [.e (mP fLen [.v 0]), .e (mK (.i 2))]) (tgV 1)) (
  sRet (mP fTup [.e (mP fRev [.e (mSl (.v 0) none (some (mV 1)))]), .e (mSl (.v 0) (some (mV 1)) (some (mP fSub [.e (mP fLen [.v 0]), .v 1]))), .e (mSl (.v 0) (some (mP fSub [.e (mP fLen [.v 0]), .v 1])) none)]))
@[irreducible] noncomputable def fn__law_parts : Fn := mkFn false 2 m__law_parts
noncomputable def m__law_turned_round : Ev → So :=
  sSeq (sAsg (mC fn__law_parts [.v 0]) (tgT [(tgV 2), (tgV 3), (tgV 4)])) (
  sRet (mP fAdd [.e (mP fAdd [.e (mP fAdd [.e (mP fRev [.e (mSl (.v 4) none (some (mV 1)))]), .v 3]), .e (mP fRev [.e (mSl (.v 2) none (some (mV 1)))])]), .v 3]))
@[irreducible] noncomputable def fn__law_turned_round : Fn := mkFn false 5 m__law_turned_round
noncomputable def m__law_whole_row : Ev → So :=
  sSeq (sAsg (mC fn__law_parts [.v 0]) (tgT [(tgV 1), (tgV 2), (tgV 3)])) (
  sSeq (sAsg (mP fLst []) (tgV 4)) (
  sSeq (sFor (mS sRng2 [.e (mK (.i 1)), .e (mP fAdd [.e (mP fLen [.v 3]), .e (mK (.i 1))])]) (tgV 5) (
  sAsg (mP fAdd [.e (mP fAdd [.v 4, .e (mC fn__law_turned_round [.v 0, .v 5])]), .v 4]) (tgV 4))) (
  sRet (mP fAdd [.e (mP fAdd [.e (mP fRev [.v 1]), .v 2]), .v 4]))))
@[irreducible] noncomputable def fn__law_whole_row : Fn := mkFn false 6 m__law_whole_row
noncomputable def m_two_to : Ev → So :=
  sSeq (sAsg (mK (.i 1)) (tgV 1)) (
  sSeq (sFor (mS sRng1 [.v 0]) (tgV 2) (
  sAug 1 cMul (· * ·) (mK (.i 2)))) (
  sRetV 1))
@[irreducible] noncomputable def fn_two_to : Fn := mkFn false 3 m_two_to
noncomputable def m_LongRow : List IR :=
  [.fld "folk" (mP fSorted [.v 1]),
  .fld "half" (mP fDiv [.e (mP fLen [.e (mP (fFld "LongRow" "folk") [.v 0])]), .e (mK (.i 2))]),
  .fld "spare" (mP fMod [.e (mP fLen [.e (mP (fFld "LongRow" "folk") [.v 0])]), .e (mK (.i 2))]),
  .fld "rounds" (mP fSub [.e (mC fn_two_to [.e (mP (fFld "LongRow" "half") [.v 0])]), .e (mK (.i 1))]),
  .fld "begin" (mP fAdd [.e (mP (fFld "LongRow" "half") [.v 0]), .e (mP (fFld "LongRow" "spare") [.v 0])])]
@[irreducible] noncomputable def fn_LongRow : Fn := fnMk "LongRow" 0 m_LongRow
theorem fn_LongRow_e : fn_LongRow = fnMk "LongRow" 0 m_LongRow := by unfold fn_LongRow; rfl
noncomputable def m_ones_in : Ev → So :=
  sSeq (sAsg (mK (.i 0)) (tgV 1)) (
  sSeq (sWh (mTe (mP fGt [.v 0, .e (mK (.i 0))])) (
  sSeq (sAug 1 cYes (· + ·) (mP fMod [.v 0, .e (mK (.i 2))])) (
  sAug 0 cDiv (· / ·) (mK (.i 2))))) (
  sRetV 1))
@[irreducible] noncomputable def fn_ones_in : Fn := mkFn false 2 m_ones_in
noncomputable def m_LongRow_behind : Ev → So :=
  sRet (mP fAdd [.e (mP fAdd [.e (mP (fFld "LongRow" "begin") [.v 0]), .e (mP fMul [.e (mK (.i 2)), .e (mP fSub [.e (mP fMul [.e (mK (.i 2)), .v 1]), .e (mC fn_ones_in [.v 1])])])]), .e (mP fMul [.e (mP fMul [.e (mK (.i 2)), .e (mP (fFld "LongRow" "spare") [.v 0])]), .v 1])])
@[irreducible] noncomputable def fn_LongRow_behind : Fn := mkFn false 2 m_LongRow_behind
noncomputable def m_LongRow_high : Ev → So :=
  sRet (mP fIx [.e (mP (fFld "LongRow" "folk") [.v 0]), .e (mP fSub [.e (mP fAdd [.e (mP (fFld "LongRow" "begin") [.v 0]), .v 1]), .e (mK (.i 1))])])
@[irreducible] noncomputable def fn_LongRow_high : Fn := mkFn false 2 m_LongRow_high
noncomputable def m_LongRow_low : Ev → So :=
  sRet (mP fIx [.e (mP (fFld "LongRow" "folk") [.v 0]), .e (mP fSub [.e (mP (fFld "LongRow" "half") [.v 0]), .v 1])])
@[irreducible] noncomputable def fn_LongRow_low : Fn := mkFn false 2 m_LongRow_low
noncomputable def m_twos_in : Ev → So :=
  sSeq (sAsg (mK (.i 0)) (tgV 1)) (
  sSeq (sWh (mTe (mP fEq [.e (mP fMod [.v 0, .e (mK (.i 2))]), .e (mK (.i 0))])) (
  sSeq (sAug 0 cDiv (· / ·) (mK (.i 2))) (
  sAug 1 cYes (· + ·) (mK (.i 1))))) (
  sRetV 1))
@[irreducible] noncomputable def fn_twos_in : Fn := mkFn false 2 m_twos_in
noncomputable def m_LongRow_in_round : Ev → So :=
  sSeq (sAsg (mP fLrg [.e (mP fAdd [.e (mK (.i 1)), .e (mC fn_twos_in [.v 1])]), .e (mK (.i 0)), .e (mP fNeg [.e (mK (.i 1))])]) (tgV 2)) (
  sSeq (sAsg (mSl (.e (mP (fFld "LongRow" "folk") [.v 0])) (some (mP (fFld "LongRow" "half") [.v 0])) (some (mP (fFld "LongRow" "begin") [.v 0]))) (tgV 3)) (
  sRet (mP fAdd [.e (mP fAdd [.e (mP fAdd [.e (mLc false [4] (mS sSq [.v 2]) (tgV 4) (mYes) (mMe "LongRow" "high" fn_LongRow_high (.v 0) [.v 4])), .v 3]), .e (mLc false [4] (mS sSq [.v 2]) (tgV 4) (mYes) (mMe "LongRow" "low" fn_LongRow_low (.v 0) [.v 4]))]), .v 3])))
@[irreducible] noncomputable def fn_LongRow_in_round : Fn := mkFn false 5 m_LongRow_in_round
noncomputable def m_LongRow_rounds_in : Ev → So :=
  sSeq (sPar [2, 3] [mK (.i 0), mP fAdd [.e (mP (fFld "LongRow" "rounds") [.v 0]), .e (mK (.i 1))]]) (
  sSeq (sWh (mTe (mP fGt [.e (mP fSub [.v 3, .v 2]), .e (mK (.i 1))])) (
  sSeq (sAsg (mP fDiv [.e (mP fAdd [.v 2, .v 3]), .e (mK (.i 2))]) (tgV 4)) (
  sIf (mTe (mP fLe [.e (mMe "LongRow" "behind" fn_LongRow_behind (.v 0) [.v 4]), .v 1])) (
  sAsg (mV 4) (tgV 2)) (sAsg (mV 4) (tgV 3))))) (
  sRetV 2))
@[irreducible] noncomputable def fn_LongRow_rounds_in : Fn := mkFn false 5 m_LongRow_rounds_in
noncomputable def m_LongRow_goer : Ev → So :=
  sSeq (sIf (mTe (mP fLt [.v 1, .e (mP (fFld "LongRow" "begin") [.v 0])])) (
  sRet (mP fIx [.e (mP (fFld "LongRow" "folk") [.v 0]), .v 1])) (sNx)) (
  sSeq (sAsg (mMe "LongRow" "rounds_in" fn_LongRow_rounds_in (.v 0) [.v 1]) (tgV 2)) (
  sRet (mP fIx [.e (mMe "LongRow" "in_round" fn_LongRow_in_round (.v 0) [.e (mP fAdd [.v 2, .e (mK (.i 1))])]), .e (mP fSub [.v 1, .e (mMe "LongRow" "behind" fn_LongRow_behind (.v 0) [.v 2])])])))
@[irreducible] noncomputable def fn_LongRow_goer : Fn := mkFn false 3 m_LongRow_goer
noncomputable def m_LongRow_long_size : Ev → So :=
  sRet (mMe "LongRow" "behind" fn_LongRow_behind (.v 0) [.e (mP (fFld "LongRow" "rounds") [.v 0])])
@[irreducible] noncomputable def fn_LongRow_long_size : Fn := mkFn false 1 m_LongRow_long_size
noncomputable def m_look_place : Ev → So :=
  sIf (mNot (mTe (mCh fLe fLt (.e (mK (.i 0))) (.v 0) (.v 1)))) (
  sNo) (sNx)
@[irreducible] noncomputable def fn_look_place : Fn := mkFn false 2 m_look_place
noncomputable def m_long_goer : Ev → So :=
  sSeq (sAsg (mC fn_LongRow [.v 0]) (tgV 2)) (
  sSeq (sExpr (mC fn_look_place [.v 1, .e (mMe "LongRow" "long_size" fn_LongRow_long_size (.v 2) [])])) (
  sRet (mMe "LongRow" "goer" fn_LongRow_goer (.v 2) [.v 1])))
@[irreducible] noncomputable def fn_long_goer : Fn := mkFn false 3 m_long_goer
noncomputable def m_long_row : Ev → So :=
  sSeq (sAsg (mC fn_LongRow [.v 0]) (tgV 3)) (
  sSeq (sExpr (mC fn_look_place [.v 1, .e (mP fAdd [.e (mMe "LongRow" "long_size" fn_LongRow_long_size (.v 3) []), .e (mK (.i 1))])])) (
  sRet (mLc false [4] (mS sRng2 [.v 1, .e (mP fMin2 [.e (mMe "LongRow" "long_size" fn_LongRow_long_size (.v 3) []), .e (mP fAdd [.v 1, .v 2])])]) (tgV 4) (mYes) (mMe "LongRow" "goer" fn_LongRow_goer (.v 3) [.v 4]))))
@[irreducible] noncomputable def fn_long_row : Fn := mkFn false 5 m_long_row
noncomputable def m__law_right : Ev → So :=
  sSeq (sAsg (mCI fn__law_weights 0 [.e (mP fAdd [.e (mK (.i 1)), .e (mCI fn__law_draw 0 [.e (mK (.i 12))])])]) (tgV 1)) (
  sSeq (sAsg (mCI fn__law_part 0 [.v 1, .e (mP fLen [.v 1])]) (tgV 2)) (
  sSeq (sPar [3, 4] [mP fRepr [.v 2], mC fn__law_whole_row [.v 1]]) (
  sSeq (sAsg (mLstO [mC fn_long_row [.v 2, .e (mK (.i 0)), .e (mP fLen [.v 4])], mCK fn_long_row [0, 1, 2] [.e (mP fTuple [.v 1]), .e (mK (.i 0)), .e (mP fPow [.e (mK (.i 10)), .e (mK (.i 6))])]]) (tgV 5)) (
  sSeq (sIf (mNot (mTe (mC (fn__law_same 8) [.v 5, .e (mP fLst [.v 4, .v 4])]))) (
  sRet (mK (.b false))) (sNx)) (
  sSeq (sApN 5 [mK (.i 0)] (mK (.s (PySem.Str.ofString "more")))) (
  sSeq (sRevN 5 [mK (.i 1)]) (
  sSeq (sFor (mS sRng1 [.e (mK (.i 12))]) (tgV 6) (
  sSeq (sPar [7, 8] [mCI fn__law_draw 0 [.e (mP fAdd [.e (mP fLen [.v 4]), .e (mK (.i 1))])], mCI fn__law_draw 0 [.e (mK (.i 30))]]) (
  sSeq (sAsg (mLstO [mC fn_long_row [.v 2, .v 7, .v 8], mCK fn_long_row [1, 2, 0] [.v 8, .v 1, .v 7]]) (tgV 5)) (
  sIf (mNot (mTe (mC (fn__law_same 8) [.v 5, .e (mP fMul [.e (mP fLst [.e (mSl (.v 4) (some (mV 7)) (some (mP fAdd [.v 7, .v 8])))]), .e (mK (.i 2))])]))) (
  sRet (mK (.b false))) (sNx))))) (
  sSeq (sAsg (mLstO [mC fn_long_row [.v 1, .e (mP fLen [.v 4]), .e (mK (.i 5))], mC fn_long_row [.v 1, .e (mK (.i 0)), .e (mK (.i 0))], mC fn_long_row [.v 1, .e (mP fSub [.e (mP fLen [.v 4]), .e (mK (.i 1))]), .e (mK (.i 9))]]) (tgV 5)) (
  sSeq (sIf (mNot (mTe (mC (fn__law_same 8) [.v 5, .e (mP fLst [.e (mP fLst []), .e (mP fLst []), .e (mSl (.v 4) (some (mP fNeg [.e (mK (.i 1))])) none)])]))) (
  sRet (mK (.b false))) (sNx)) (
  sSeq (sFor (mS sRng1 [.e (mK (.i 12))]) (tgV 6) (
  sSeq (sAsg (mCI fn__law_draw 0 [.e (mP fLen [.v 4])]) (tgV 7)) (
  sIf (mNot (mTe (mC (fn__law_same 8) [.e (mP fLst [.e (mC fn_long_goer [.v 2, .v 7]), .e (mCK fn_long_goer [1, 0] [.v 7, .e (mP fTuple [.v 2])])]), .e (mP fMul [.e (mP fLst [.e (mP fIx [.v 4, .v 7])]), .e (mK (.i 2))])]))) (
  sRet (mK (.b false))) (sNx)))) (
  sRet (mP fEq [.e (mP fRepr [.v 2]), .v 3]))))))))))))
@[irreducible] noncomputable def fn__law_right : Fn := mkFn true 9 m__law_right
noncomputable def m__law_tape : Ev → So :=
  sSeq (sAsg (mIf (mTe (mP fLt [.v 1, .e (mP fLen [.v 0])])) (mP fIx [.v 0, .v 1]) (mK (.i 0))) (tgV 2)) (
  sRet (mP fLst [.e (mP fMul [.e (mP fAbs [.v 2]), .e (mP fInt [.e (mP fGe [.e (mP fAbs [.v 2]), .e (mP fPow [.e (mK (.i 10)), .e (mK (.i 18))])])])]), .e (mP fAdd [.e (mP fAdd [.e (mP fMod [.v 2, .e (mK (.i 2305843009213693951))]), .e (mP fMul [.e (mK (.i 39373)), .v 1])]), .e (mK (.i 17))]), .e (mK (.i 0))]))
@[irreducible] noncomputable def fn__law_tape : Fn := mkFn false 3 m__law_tape
noncomputable def m_law : Ev → So :=
  sSeq (sAsg (mC fn__law_folded [.v 0, .e (mK (.i 2))]) (tgV 1)) (
  sRet (mP fAll [.e (mLc false [2] (mS sRng1 [.e (mP fMax2 [.e (mK (.i 1)), .e (mP fLen [.v 1])])]) (tgV 2) (mYes) (mCM fn__law_right (mC fn__law_tape [.v 1, .v 2]) []))]))
@[irreducible] noncomputable def fn_law : Fn := mkFn false 3 m_law
/-! what the top has written -/
structure Txt (K : PySem.W.Frag) (mg : Str → Option Value) where
  C_LongRow : Addr
  hC_LongRow : PySem.W.nsIn K mainGlobals "LongRow" = some (some (.ref C_LongRow))
  cl_LongRow : Cls K C_LongRow
  mg_LongRow : mg "LongRow" = some (.ref C_LongRow)
  n_LongRow_folk : NoAttr K C_LongRow "folk"
  n_LongRow_half : NoAttr K C_LongRow "half"
  n_LongRow_spare : NoAttr K C_LongRow "spare"
  n_LongRow_rounds : NoAttr K C_LongRow "rounds"
  n_LongRow_begin : NoAttr K C_LongRow "begin"
  a__law_folded : Addr
  d__law_folded : FuncData
  F__law_folded : Fun K "_law_folded" "_law_folded" (top 15) a__law_folded d__law_folded
  b__law_folded : Binds K d__law_folded ["_law_script", "_law_much"] []
  m__law_folded : mg "_law_folded" = some (.ref a__law_folded)
  a__law_draw : Addr
  d__law_draw : FuncData
  F__law_draw : Fun K "_law_draw" "_law_draw" (top 14) a__law_draw d__law_draw
  b__law_draw : Binds K d__law_draw ["_law_tape_here", "_law_much"] []
  m__law_draw : mg "_law_draw" = some (.ref a__law_draw)
  a__law_part : Addr
  d__law_part : FuncData
  F__law_part : Fun K "_law_part" "_law_part" (top 17) a__law_part d__law_part
  b__law_part : Binds K d__law_part ["_law_tape_here", "_law_some", "_law_much"] []
  m__law_part : mg "_law_part" = some (.ref a__law_part)
  a__law_same : Addr
  d__law_same : FuncData
  F__law_same : Fun K "_law_same" "_law_same" (top 16) a__law_same d__law_same
  b__law_same : Binds K d__law_same ["_law_found", "_law_due"] []
  m__law_same : mg "_law_same" = some (.ref a__law_same)
  a__law_weights : Addr
  d__law_weights : FuncData
  F__law_weights : Fun K "_law_weights" "_law_weights" (top 18) a__law_weights d__law_weights
  b__law_weights : Binds K d__law_weights ["_law_tape_here", "_law_much"] []
  m__law_weights : mg "_law_weights" = some (.ref a__law_weights)
  a__law_parts : Addr
  d__law_parts : FuncData
  F__law_parts : Fun K "_law_parts" "_law_parts" (top 19) a__law_parts d__law_parts
  b__law_parts : Binds K d__law_parts ["_law_row"] []
  m__law_parts : mg "_law_parts" = some (.ref a__law_parts)
  a__law_turned_round : Addr
  d__law_turned_round : FuncData
  F__law_turned_round : Fun K "_law_turned_round" "_law_turned_round" (top 20) a__law_turned_round d__law_turned_round
  b__law_turned_round : Binds K d__law_turned_round ["_law_row", "_law_step"] []
  m__law_turned_round : mg "_law_turned_round" = some (.ref a__law_turned_round)
  a__law_whole_row : Addr
  d__law_whole_row : FuncData
  F__law_whole_row : Fun K "_law_whole_row" "_law_whole_row" (top 21) a__law_whole_row d__law_whole_row
  b__law_whole_row : Binds K d__law_whole_row ["_law_row"] []
  m__law_whole_row : mg "_law_whole_row" = some (.ref a__law_whole_row)
  a_two_to : Addr
  d_two_to : FuncData
  F_two_to : Fun K "two_to" "two_to" (top 4) a_two_to d_two_to
  b_two_to : Binds K d_two_to ["number"] []
  m_two_to : mg "two_to" = some (.ref a_two_to)
  a_LongRow___init__ : Addr
  d_LongRow___init__ : FuncData
  F_LongRow___init__ : Fun K "__init__" "LongRow.__init__" (inClass (top 8) 0) a_LongRow___init__ d_LongRow___init__
  b_LongRow___init__ : Binds K d_LongRow___init__ ["self", "folk"] []
  mk_LongRow : L2.Mk K C_LongRow a_LongRow___init__
  a_ones_in : Addr
  d_ones_in : FuncData
  F_ones_in : Fun K "ones_in" "ones_in" (top 6) a_ones_in d_ones_in
  b_ones_in : Binds K d_ones_in ["number"] []
  m_ones_in : mg "ones_in" = some (.ref a_ones_in)
  a_LongRow_behind : Addr
  d_LongRow_behind : FuncData
  F_LongRow_behind : Fun K "behind" "LongRow.behind" (inClass (top 8) 3) a_LongRow_behind d_LongRow_behind
  b_LongRow_behind : Binds K d_LongRow_behind ["self", "rounds"] []
  h_LongRow_behind : Meth K C_LongRow "behind" a_LongRow_behind
  a_LongRow_high : Addr
  d_LongRow_high : FuncData
  F_LongRow_high : Fun K "high" "LongRow.high" (inClass (top 8) 1) a_LongRow_high d_LongRow_high
  b_LongRow_high : Binds K d_LongRow_high ["self", "number"] []
  h_LongRow_high : Meth K C_LongRow "high" a_LongRow_high
  a_LongRow_low : Addr
  d_LongRow_low : FuncData
  F_LongRow_low : Fun K "low" "LongRow.low" (inClass (top 8) 2) a_LongRow_low d_LongRow_low
  b_LongRow_low : Binds K d_LongRow_low ["self", "number"] []
  h_LongRow_low : Meth K C_LongRow "low" a_LongRow_low
  a_twos_in : Addr
  d_twos_in : FuncData
  F_twos_in : Fun K "twos_in" "twos_in" (top 7) a_twos_in d_twos_in
  b_twos_in : Binds K d_twos_in ["number"] []
  m_twos_in : mg "twos_in" = some (.ref a_twos_in)
  a_LongRow_in_round : Addr
  d_LongRow_in_round : FuncData
  F_LongRow_in_round : Fun K "in_round" "LongRow.in_round" (inClass (top 8) 6) a_LongRow_in_round d_LongRow_in_round
  b_LongRow_in_round : Binds K d_LongRow_in_round ["self", "number"] []
  h_LongRow_in_round : Meth K C_LongRow "in_round" a_LongRow_in_round
  a_LongRow_rounds_in : Addr
  d_LongRow_rounds_in : FuncData
  F_LongRow_rounds_in : Fun K "rounds_in" "LongRow.rounds_in" (inClass (top 8) 5) a_LongRow_rounds_in d_LongRow_rounds_in
  b_LongRow_rounds_in : Binds K d_LongRow_rounds_in ["self", "place"] []
  h_LongRow_rounds_in : Meth K C_LongRow "rounds_in" a_LongRow_rounds_in
  a_LongRow_goer : Addr
  d_LongRow_goer : FuncData
  F_LongRow_goer : Fun K "goer" "LongRow.goer" (inClass (top 8) 7) a_LongRow_goer d_LongRow_goer
  b_LongRow_goer : Binds K d_LongRow_goer ["self", "place"] []
  h_LongRow_goer : Meth K C_LongRow "goer" a_LongRow_goer
  a_LongRow_long_size : Addr
  d_LongRow_long_size : FuncData
  F_LongRow_long_size : Fun K "long_size" "LongRow.long_size" (inClass (top 8) 4) a_LongRow_long_size d_LongRow_long_size
  b_LongRow_long_size : Binds K d_LongRow_long_size ["self"] []
  h_LongRow_long_size : Meth K C_LongRow "long_size" a_LongRow_long_size
  a_look_place : Addr
  d_look_place : FuncData
  F_look_place : Fun K "look_place" "look_place" (top 9) a_look_place d_look_place
  b_look_place : Binds K d_look_place ["place", "many"] []
  m_look_place : mg "look_place" = some (.ref a_look_place)
  a_long_goer : Addr
  d_long_goer : FuncData
  F_long_goer : Fun K "long_goer" "long_goer" (top 10) a_long_goer d_long_goer
  b_long_goer : Binds K d_long_goer ["folk", "place"] []
  m_long_goer : mg "long_goer" = some (.ref a_long_goer)
  k_long_goer_0 : KB K d_long_goer ["folk", "place"] 0 ["place", "folk"] [1, 0]
  a_long_row : Addr
  d_long_row : FuncData
  F_long_row : Fun K "long_row" "long_row" (top 11) a_long_row d_long_row
  b_long_row : Binds K d_long_row ["folk", "place", "many"] []
  m_long_row : mg "long_row" = some (.ref a_long_row)
  k_long_row_0 : KB K d_long_row ["folk", "place", "many"] 0 ["folk", "place", "many"] [0, 1, 2]
  k_long_row_1 : KB K d_long_row ["folk", "place", "many"] 0 ["many", "folk", "place"] [1, 2, 0]
  a__law_right : Addr
  d__law_right : FuncData
  F__law_right : Fun K "_law_right" "_law_right" (top 22) a__law_right d__law_right
  b__law_right : Binds K d__law_right ["_law_tape_here"] []
  m__law_right : mg "_law_right" = some (.ref a__law_right)
  a__law_tape : Addr
  d__law_tape : FuncData
  F__law_tape : Fun K "_law_tape" "_law_tape" (top 13) a__law_tape d__law_tape
  b__law_tape : Binds K d__law_tape ["_law_script", "_law_k"] []
  m__law_tape : mg "_law_tape" = some (.ref a__law_tape)
  a_law : Addr
  d_law : FuncData
  F_law : Fun K "law" "law" (top 23) a_law d_law
  b_law : Binds K d_law ["_law_script"] []
  m_law : mg "law" = some (.ref a_law)
  z_abs : mg "abs" = none
  z_all : mg "all" = none
  z_bool : mg "bool" = none
  z_enumerate : mg "enumerate" = none
  z_int : mg "int" = none
  z_isinstance : mg "isinstance" = none
  z_len : mg "len" = none
  z_list : mg "list" = none
  z_max : mg "max" = none
  z_min : mg "min" = none
  z_range : mg "range" = none
  z_repr : mg "repr" = none
  z_sorted : mg "sorted" = none
  z_str : mg "str" = none
  z_tuple : mg "tuple" = none
  z_zip : mg "zip" = none
section
variable {P : Program} {w : World} {K : PySem.W.Frag} {mg : Str → Option Value} {base : Heap}
def cl0 : Str → Addr := fun _ => 0
abbrev N__law_folded : List Str := ["_law_script", "_law_much", "_law_cells", "_law_k", "_law_cell"]
theorem sc__law_folded : FnScope N__law_folded ["_law_script", "_law_much"] (defScope (top 15)) := ⟨rfl, rfl, rfl, by decide +kernel, rfl, by decide +kernel, by decide +kernel⟩
theorem ok__law_folded (T : Txt K mg) : Y.FnOk P w K mg base (L2.CX P w) 1 T.a__law_folded T.d__law_folded ["_law_script", "_law_much"] (spY K cl0 false 2 fn__law_folded) := by
  unfold fn__law_folded
  exact fn_ok T.F__law_folded sc__law_folded rfl rfl (by decide) fun cdv A outer s H E hr => show JB _ _ _ _ _ m__law_folded from
      jb_c (js_set (i := 2) sc__law_folded.nd rfl (by first | exact Or.inl rfl | exact Or.inr rfl) (by decide) (je_callT call_list_of pr_list (by rfl) T.z_list (by rfl) (ja_c (jo_e (je_sl (jo_v 0 (pv 0)) .none (.some (je_v 1 (pv 1))))) (ja_n)))) (
      jb_c (js_for (passes_of rfl) rfl (ji_enum (by rfl) T.z_enumerate (jo_e (je_sl (jo_v 0 (pv 0)) (.some (je_v 1 (pv 1))) (.some (je_int))))) (pg_tupA rfl (pgs_cons (pg_name (i := 3) sc__law_folded.nd rfl (by first | exact Or.inl rfl | exact Or.inr rfl)) (pgs_cons (pg_name (i := 4) sc__law_folded.nd rfl (by first | exact Or.inl rfl | exact Or.inr rfl)) (pgs_nil)))) (tg_tup (tgs_c (tg_name (i := 3) (by decide)) (tgs_c (tg_name (i := 4) (by decide)) (tgs_nil))) rfl) (
      jb_1 (js_setI 2 (pv 2) (je_bin op_mod pr_mod (jo_v 3 (pv 3)) (jo_v 1 (pv 1))) (je_bin or_add pr_add (jo_e (je_ix ix_seq pr_ix (jo_v 2 (pv 2)) (jo_e (je_bin op_mod pr_mod (jo_v 3 (pv 3)) (jo_v 1 (pv 1)))) (fun _ _ => rfl))) (jo_e (je_bin or_mul pr_mul (jo_v 4 (pv 4)) (jo_e (je_bin or_add pr_add (jo_v 3 (pv 3)) (jo_e (je_int)))))))))) (
      jb_1 (js_retV 2 (pv 2))))
abbrev N__law_draw : List Str := ["_law_tape_here", "_law_much", "_law_found", "_law_once", "_law_twice", "_law_wide"]
theorem sc__law_draw : FnScope N__law_draw ["_law_tape_here", "_law_much"] (defScope (top 14)) := ⟨rfl, rfl, rfl, by decide +kernel, rfl, by decide +kernel, by decide +kernel⟩
theorem ok__law_draw (T : Txt K mg) : Y.FnOk P w K mg base (L2.CX P w) 1 T.a__law_draw T.d__law_draw ["_law_tape_here", "_law_much"] (spY K cl0 true 2 fn__law_draw) := by
  unfold fn__law_draw
  exact fn_ok T.F__law_draw sc__law_draw rfl rfl (by decide) fun cdv A outer s H E hr => show JB _ _ _ _ _ m__law_draw from
      jb_c (js_if (jt_cmp op_gt (nomark _) pr_gt (jo_e (je_ix ix_seq pr_ix (jo_v 0 (pv 0)) (jo_e (je_int)) (fun _ _ => rfl))) (jo_e (je_int))) (
      jb_c (js_set (i := 2) sc__law_draw.nd rfl (by first | exact Or.inl rfl | exact Or.inr rfl) (by decide) (je_bin op_mod pr_mod (jo_e (je_ix ix_seq pr_ix (jo_v 0 (pv 0)) (jo_e (je_int)) (fun _ _ => rfl))) (jo_v 1 (pv 1)))) (
      jb_c (js_setI 0 (pv 0) (je_int) (je_bin op_fdivW pr_div (jo_e (je_ix ix_seq pr_ix (jo_v 0 (pv 0)) (jo_e (je_int)) (fun _ _ => rfl))) (jo_v 1 (pv 1)))) (
      jb_1 (js_retV 2 (pv 2))))) (jb_nil)) (
      jb_c (js_setI 0 (pv 0) (je_int) (je_bin or_add pr_add (jo_e (je_ix ix_seq pr_ix (jo_v 0 (pv 0)) (jo_e (je_int)) (fun _ _ => rfl))) (jo_e (je_int)))) (
      jb_c (js_set (i := 3) sc__law_draw.nd rfl (by first | exact Or.inl rfl | exact Or.inr rfl) (by decide) (je_bin op_mod pr_mod (jo_e (je_bin op_pow pr_pow (jo_e (je_bin or_add pr_add (jo_e (je_ix ix_seq pr_ix (jo_v 0 (pv 0)) (jo_e (je_int)) (fun _ _ => rfl))) (jo_e (je_bin or_mul pr_mul (jo_e (je_int)) (jo_e (je_ix ix_seq pr_ix (jo_v 0 (pv 0)) (jo_e (je_int)) (fun _ _ => rfl))))))) (jo_e (je_int)))) (jo_e (je_int)))) (
      jb_c (js_set (i := 4) sc__law_draw.nd rfl (by first | exact Or.inl rfl | exact Or.inr rfl) (by decide) (je_bin op_mod pr_mod (jo_e (je_bin or_mul pr_mul (jo_e (je_bin or_add pr_add (jo_v 3 (pv 3)) (jo_e (je_ix ix_seq pr_ix (jo_v 0 (pv 0)) (jo_e (je_int)) (fun _ _ => rfl))))) (jo_e (je_bin or_add pr_add (jo_e (je_bin or_add pr_add (jo_e (je_bin op_mod pr_mod (jo_v 3 (pv 3)) (jo_e (je_int)))) (jo_e (je_int)))) (jo_e (je_ix ix_seq pr_ix (jo_v 0 (pv 0)) (jo_e (je_int)) (fun _ _ => rfl))))))) (jo_e (je_int)))) (
      jb_c (js_set (i := 5) sc__law_draw.nd rfl (by first | exact Or.inl rfl | exact Or.inr rfl) (by decide) (je_bin op_mod pr_mod (jo_e (je_bin or_add pr_add (jo_e (je_bin or_add pr_add (jo_e (je_bin op_fdivW pr_div (jo_e (je_ix ix_seq pr_ix (jo_v 0 (pv 0)) (jo_e (je_int)) (fun _ _ => rfl))) (jo_e (je_int)))) (jo_e (je_bin or_mul pr_mul (jo_v 4 (pv 4)) (jo_e (je_int)))))) (jo_e (je_ix ix_seq pr_ix (jo_v 0 (pv 0)) (jo_e (je_int)) (fun _ _ => rfl))))) (jo_e (je_int)))) (
      jb_1 (js_ret (je_bin op_mod pr_mod (jo_e (je_bin op_fdivW pr_div (jo_e (je_bin op_mod pr_mod (jo_e (je_bin or_add pr_add (jo_e (je_bin or_add pr_add (jo_e (je_bin or_mul pr_mul (jo_v 4 (pv 4)) (jo_e (je_int)))) (jo_e (je_bin or_mul pr_mul (jo_v 5 (pv 5)) (jo_e (je_int)))))) (jo_v 3 (pv 3)))) (jo_e (je_int)))) (jo_e (je_int)))) (jo_v 1 (pv 1)))))))))
abbrev N__law_part : List Str := ["_law_tape_here", "_law_some", "_law_much", "_law_left", "_law_k"]
theorem sc__law_part : FnScope N__law_part ["_law_tape_here", "_law_some", "_law_much"] (defScope (top 17)) := ⟨rfl, rfl, rfl, by decide +kernel, rfl, by decide +kernel, by decide +kernel⟩
theorem ok__law_part (T : Txt K mg) : Y.FnOk P w K mg base (L2.CX P w) 2 T.a__law_part T.d__law_part ["_law_tape_here", "_law_some", "_law_much"] (spY K cl0 true 3 fn__law_part) := by
  unfold fn__law_part
  exact fn_ok T.F__law_part sc__law_part rfl rfl (by decide) fun cdv A outer s H E hr => show JB _ _ _ _ _ m__law_part from
      jb_c (js_set (i := 3) sc__law_part.nd rfl (by first | exact Or.inl rfl | exact Or.inr rfl) (by decide) (je_callT call_list_of pr_list (by rfl) T.z_list (by rfl) (ja_c (jo_v 1 (pv 1)) (ja_n)))) (
      jb_1 (js_ret (je_lc (own := [("_law_k", 4)]) false rfl sc__law_part.nd (ji_rng1 (by rfl) T.z_range (jo_v 2 (pv 2))) (blkOk_by (own := [("_law_k", 4)]) (N := N__law_part) (sc := (defScope (top 17))) (by decide +kernel)) (fun _ _ _ _ _ => pg_name (i := 4) sc__law_part.nd rfl (by first | exact Or.inl rfl | exact Or.inr rfl)) (tg_name (i := 4) (by decide)) (tw_name (i := 4) (by decide)) (fun _ _ _ _ _ => jts_nil) (fun _ _ _ _ _ => je_pop 3 (pv 3) (je_callI (i := 0) (ok__law_draw T) (hr.mono (by decide)) T.m__law_draw T.F__law_draw.kp T.b__law_draw (ja_c (jo_v 0 (pv 0)) (ja_c (jo_e (je_callB cr_len pr_len (by rfl) T.z_len (by rfl) (ja_c (jo_v 3 (pv 3)) (ja_n)))) (ja_n))))))))
abbrev N__law_same : List Str := ["_law_found", "_law_due", "_law_one", "_law_other"]
theorem sc__law_same : FnScope N__law_same ["_law_found", "_law_due"] (defScope (top 16)) := ⟨rfl, rfl, rfl, by decide +kernel, rfl, by decide +kernel, by decide +kernel⟩
theorem ok__law_same (T : Txt K mg) : ∀ d : Nat, Y.FnOk P w K mg base (L2.CX P w) (d + 1) T.a__law_same T.d__law_same ["_law_found", "_law_due"] (spY K cl0 false 2 (fn__law_same d))
  | 0 => by
    rw [fn__law_same_0]
    exact fn_no T.F__law_same sc__law_same
  | d + 1 => by
    have ih := ok__law_same T d
    rw [fn__law_same_s]
    exact fn_ok (k := d + 1) T.F__law_same sc__law_same rfl rfl (by decide) fun cdv A outer s H E hr => show JB _ _ _ _ _ (m__law_same (fn__law_same d)) from
      jb_c (js_if (jt_val (je_isi2 (by decide) (by decide) (by rfl) T.z_isinstance (by rfl) T.z_list (by rfl) (by rfl) T.z_tuple (by rfl) (jo_v 1 (pv 1)))) (
      jb_c (js_if (jt_w (jw_or (jt_cmp (or_ne hr.units) (nomark _) pr_ne (jo_e (je_isi1 (by decide) (by rfl) T.z_isinstance (by rfl) T.z_list (by rfl) (jo_v 0 (pv 0)))) (jo_e (je_isi1 (by decide) (by rfl) T.z_isinstance (by rfl) T.z_list (by rfl) (jo_v 1 (pv 1))))) (jw_or1 (jt_cmp (or_ne hr.units) (nomark _) pr_ne (jo_e (je_isi1 (by decide) (by rfl) T.z_isinstance (by rfl) T.z_tuple (by rfl) (jo_v 0 (pv 0)))) (jo_e (je_isi1 (by decide) (by rfl) T.z_isinstance (by rfl) T.z_tuple (by rfl) (jo_v 1 (pv 1)))))))) (
      jb_1 (js_ret (je_bl))) (jb_nil)) (
      jb_1 (js_ret (je_and (je_cmp (or_eq hr.units) (nomark _) pr_eq (jo_e (je_callB cr_len pr_len (by rfl) T.z_len (by rfl) (ja_c (jo_v 0 (pv 0)) (ja_n)))) (jo_e (je_callB cr_len pr_len (by rfl) T.z_len (by rfl) (ja_c (jo_v 1 (pv 1)) (ja_n))))) (je_one (je_callB (cr_all rfl) pr_all (by rfl) T.z_all (by rfl) (ja_c (jo_e (je_lc (own := [("_law_one", 2), ("_law_other", 3)]) false rfl sc__law_same.nd (ji_zip (by rfl) T.z_zip (jo_v 0 (pv 0)) (jo_v 1 (pv 1))) (blkOk_by (own := [("_law_one", 2), ("_law_other", 3)]) (N := N__law_same) (sc := (defScope (top 16))) (by decide +kernel)) (fun _ _ _ _ _ => pg_tupA rfl (pgs_cons (pg_name (i := 2) sc__law_same.nd rfl (by first | exact Or.inl rfl | exact Or.inr rfl)) (pgs_cons (pg_name (i := 3) sc__law_same.nd rfl (by first | exact Or.inl rfl | exact Or.inr rfl)) (pgs_nil)))) (tg_tup (tgs_c (tg_name (i := 2) (by decide)) (tgs_c (tg_name (i := 3) (by decide)) (tgs_nil))) rfl) (tw_tup (tws_c (tw_name (i := 2) (by decide)) (tws_c (tw_name (i := 3) (by decide)) (tws_nil)))) (fun _ _ _ _ _ => jts_nil) (fun _ _ _ _ _ => je_call ih (hr.mono (by omega)) T.m__law_same T.F__law_same.kp T.b__law_same (ja_c (jo_v 2 (pv 2)) (ja_c (jo_v 3 (pv 3)) (ja_n)))))) (ja_n)))))))) (jb_nil)) (
      jb_c (js_if (jt_w (jw_or (jt_cmp or_is (nomark _) pr_is (jo_v 1 (pv 1)) (jo_e (je_non))) (jw_or1 (jt_val (je_isi2 (by decide) (by decide) (by rfl) T.z_isinstance (by rfl) T.z_str (by rfl) (by rfl) T.z_bool (by rfl) (jo_v 1 (pv 1))))))) (
      jb_1 (js_ret (je_and (je_cmp (or_eq hr.units) (nomark _) pr_eq (jo_e (je_isi1 (by decide) (by rfl) T.z_isinstance (by rfl) T.z_bool (by rfl) (jo_v 0 (pv 0)))) (jo_e (je_isi1 (by decide) (by rfl) T.z_isinstance (by rfl) T.z_bool (by rfl) (jo_v 1 (pv 1))))) (je_one (je_cmp (or_eq hr.units) (nomark _) pr_eq (jo_v 0 (pv 0)) (jo_v 1 (pv 1))))))) (jb_nil)) (
      jb_1 (js_ret (je_and (je_isi1 (by decide) (by rfl) T.z_isinstance (by rfl) T.z_int (by rfl) (jo_v 0 (pv 0))) (je_and (je_not (je_isi1 (by decide) (by rfl) T.z_isinstance (by rfl) T.z_bool (by rfl) (jo_v 0 (pv 0)))) (je_one (je_cmp (or_eq hr.units) (nomark _) pr_eq (jo_v 0 (pv 0)) (jo_v 1 (pv 1)))))))))
abbrev N__law_weights : List Str := ["_law_tape_here", "_law_much", "_law_step", "_law_found", "_law_at", "_law_k"]
theorem sc__law_weights : FnScope N__law_weights ["_law_tape_here", "_law_much"] (defScope (top 18)) := ⟨rfl, rfl, rfl, by decide +kernel, rfl, by decide +kernel, by decide +kernel⟩
theorem ok__law_weights (T : Txt K mg) : Y.FnOk P w K mg base (L2.CX P w) 2 T.a__law_weights T.d__law_weights ["_law_tape_here", "_law_much"] (spY K cl0 true 2 fn__law_weights) := by
  unfold fn__law_weights
  exact fn_ok T.F__law_weights sc__law_weights rfl rfl (by decide) fun cdv A outer s H E hr => show JB _ _ _ _ _ m__law_weights from
      jb_c (js_par2 (i := 2) (j := 3) rfl sc__law_weights.nd rfl rfl (by decide) rfl rfl (by decide) (je_ix ix_seq pr_ix (jo_e (je_lst (ja_c (jo_e (je_int)) (ja_c (jo_e (je_int)) (ja_c (jo_e (je_int)) (ja_c (jo_e (je_int)) (ja_c (jo_e (je_bin op_pow pr_pow (jo_e (je_int)) (jo_e (je_int)))) (ja_n)))))))) (jo_e (je_callI (i := 0) (ok__law_draw T) (hr.mono (by decide)) T.m__law_draw T.F__law_draw.kp T.b__law_draw (ja_c (jo_v 0 (pv 0)) (ja_c (jo_e (je_int)) (ja_n))))) (fun _ _ => rfl)) (je_lst (ja_n)) rfl) (
      jb_c (js_set (i := 4) sc__law_weights.nd rfl (by first | exact Or.inl rfl | exact Or.inr rfl) (by decide) (je_ix ix_seq pr_ix (jo_e (je_lst (ja_c (jo_e (je_int)) (ja_c (jo_e (je_int)) (ja_c (jo_e (je_callI (i := 0) (ok__law_draw T) (hr.mono (by decide)) T.m__law_draw T.F__law_draw.kp T.b__law_draw (ja_c (jo_v 0 (pv 0)) (ja_c (jo_e (je_int)) (ja_n))))) (ja_c (jo_e (je_bin op_sub pr_sub (jo_e (je_bin op_pow pr_pow (jo_e (je_int)) (jo_e (je_int)))) (jo_e (je_bin or_mul pr_mul (jo_e (je_int)) (jo_v 2 (pv 2)))))) (ja_n))))))) (jo_e (je_callI (i := 0) (ok__law_draw T) (hr.mono (by decide)) T.m__law_draw T.F__law_draw.kp T.b__law_draw (ja_c (jo_v 0 (pv 0)) (ja_c (jo_e (je_int)) (ja_n))))) (fun _ _ => rfl))) (
      jb_c (js_for (passes_of rfl) rfl (ji_rng1 (by rfl) T.z_range (jo_v 1 (pv 1))) (pg_name (i := 5) sc__law_weights.nd rfl (by first | exact Or.inl rfl | exact Or.inr rfl)) (tg_name (i := 5) (by decide)) (
      jb_c (js_set (i := 4) sc__law_weights.nd rfl (by first | exact Or.inl rfl | exact Or.inr rfl) (by decide) (je_bin or_add pr_add (jo_e (je_bin or_add pr_add (jo_v 4 (pv 4)) (jo_e (je_int)))) (jo_e (je_callI (i := 0) (ok__law_draw T) (hr.mono (by decide)) T.m__law_draw T.F__law_draw.kp T.b__law_draw (ja_c (jo_v 0 (pv 0)) (ja_c (jo_v 2 (pv 2)) (ja_n))))))) (
      jb_1 (js_app 3 (pv 3) (je_v 4 (pv 4)))))) (
      jb_1 (js_retV 3 (pv 3)))))
abbrev N__law_parts : List Str := ["_law_row", "_law_half"]
theorem sc__law_parts : FnScope N__law_parts ["_law_row"] (defScope (top 19)) := ⟨rfl, rfl, rfl, by decide +kernel, rfl, by decide +kernel, by decide +kernel⟩
theorem ok__law_parts (T : Txt K mg) : Y.FnOk P w K mg base (L2.CX P w) 1 T.a__law_parts T.d__law_parts ["_law_row"] (spY K cl0 false 1 fn__law_parts) := by
  unfold fn__law_parts
  exact fn_ok T.F__law_parts sc__law_parts rfl rfl (by decide) fun cdv A outer s H E hr => show JB _ _ _ _ _ m__law_parts from
      jb_c (js_set (i := 1) sc__law_parts.nd rfl (by first | exact Or.inl rfl | exact Or.inr rfl) (by decide) (je_bin op_fdivW pr_div (jo_e (je_callB cr_len pr_len (by rfl) T.z_len (by rfl) (ja_c (jo_v 0 (pv 0)) (ja_n)))) (jo_e (je_int)))) (
      jb_1 (js_ret (je_tup (ja_c (jo_e (je_rev (jo_e (je_sl (jo_v 0 (pv 0)) .none (.some (je_v 1 (pv 1))))))) (ja_c (jo_e (je_sl (jo_v 0 (pv 0)) (.some (je_v 1 (pv 1))) (.some (je_bin op_sub pr_sub (jo_e (je_callB cr_len pr_len (by rfl) T.z_len (by rfl) (ja_c (jo_v 0 (pv 0)) (ja_n)))) (jo_v 1 (pv 1)))))) (ja_c (jo_e (je_sl (jo_v 0 (pv 0)) (.some (je_bin op_sub pr_sub (jo_e (je_callB cr_len pr_len (by rfl) T.z_len (by rfl) (ja_c (jo_v 0 (pv 0)) (ja_n)))) (jo_v 1 (pv 1)))) .none)) (ja_n)))))))
abbrev N__law_turned_round : List Str := ["_law_row", "_law_step", "_law_low", "_law_midst", "_law_high"]
theorem sc__law_turned_round : FnScope N__law_turned_round ["_law_row", "_law_step"] (defScope (top 20)) := ⟨rfl, rfl, rfl, by decide +kernel, rfl, by decide +kernel, by decide +kernel⟩
theorem ok__law_turned_round (T : Txt K mg) : Y.FnOk P w K mg base (L2.CX P w) 2 T.a__law_turned_round T.d__law_turned_round ["_law_row", "_law_step"] (spY K cl0 false 2 fn__law_turned_round) := by
  unfold fn__law_turned_round
  exact fn_ok T.F__law_turned_round sc__law_turned_round rfl rfl (by decide) fun cdv A outer s H E hr => show JB _ _ _ _ _ m__law_turned_round from
      jb_c (js_asg (pg_tupA rfl (pgs_cons (pg_name (i := 2) sc__law_turned_round.nd rfl (by first | exact Or.inl rfl | exact Or.inr rfl)) (pgs_cons (pg_name (i := 3) sc__law_turned_round.nd rfl (by first | exact Or.inl rfl | exact Or.inr rfl)) (pgs_cons (pg_name (i := 4) sc__law_turned_round.nd rfl (by first | exact Or.inl rfl | exact Or.inr rfl)) (pgs_nil))))) (tg_tup (tgs_c (tg_name (i := 2) (by decide)) (tgs_c (tg_name (i := 3) (by decide)) (tgs_c (tg_name (i := 4) (by decide)) (tgs_nil)))) rfl) (je_call (ok__law_parts T) (hr.mono (by decide)) T.m__law_parts T.F__law_parts.kp T.b__law_parts (ja_c (jo_v 0 (pv 0)) (ja_n)))) (
      jb_1 (js_ret (je_bin or_add pr_add (jo_e (je_bin or_add pr_add (jo_e (je_bin or_add pr_add (jo_e (je_rev (jo_e (je_sl (jo_v 4 (pv 4)) .none (.some (je_v 1 (pv 1))))))) (jo_v 3 (pv 3)))) (jo_e (je_rev (jo_e (je_sl (jo_v 2 (pv 2)) .none (.some (je_v 1 (pv 1))))))))) (jo_v 3 (pv 3)))))
abbrev N__law_whole_row : List Str := ["_law_row", "_law_low", "_law_midst", "_law_high", "_law_rounds", "_law_step"]
theorem sc__law_whole_row : FnScope N__law_whole_row ["_law_row"] (defScope (top 21)) := ⟨rfl, rfl, rfl, by decide +kernel, rfl, by decide +kernel, by decide +kernel⟩
theorem ok__law_whole_row (T : Txt K mg) : Y.FnOk P w K mg base (L2.CX P w) 3 T.a__law_whole_row T.d__law_whole_row ["_law_row"] (spY K cl0 false 1 fn__law_whole_row) := by
  unfold fn__law_whole_row
  exact fn_ok T.F__law_whole_row sc__law_whole_row rfl rfl (by decide) fun cdv A outer s H E hr => show JB _ _ _ _ _ m__law_whole_row from
      jb_c (js_asg (pg_tupA rfl (pgs_cons (pg_name (i := 1) sc__law_whole_row.nd rfl (by first | exact Or.inl rfl | exact Or.inr rfl)) (pgs_cons (pg_name (i := 2) sc__law_whole_row.nd rfl (by first | exact Or.inl rfl | exact Or.inr rfl)) (pgs_cons (pg_name (i := 3) sc__law_whole_row.nd rfl (by first | exact Or.inl rfl | exact Or.inr rfl)) (pgs_nil))))) (tg_tup (tgs_c (tg_name (i := 1) (by decide)) (tgs_c (tg_name (i := 2) (by decide)) (tgs_c (tg_name (i := 3) (by decide)) (tgs_nil)))) rfl) (je_call (ok__law_parts T) (hr.mono (by decide)) T.m__law_parts T.F__law_parts.kp T.b__law_parts (ja_c (jo_v 0 (pv 0)) (ja_n)))) (
      jb_c (js_set (i := 4) sc__law_whole_row.nd rfl (by first | exact Or.inl rfl | exact Or.inr rfl) (by decide) (je_lst (ja_n))) (
      jb_c (js_for (passes_of rfl) rfl (ji_rng2 (by rfl) T.z_range (jo_e (je_int)) (jo_e (je_bin or_add pr_add (jo_e (je_callB cr_len pr_len (by rfl) T.z_len (by rfl) (ja_c (jo_v 3 (pv 3)) (ja_n)))) (jo_e (je_int))))) (pg_name (i := 5) sc__law_whole_row.nd rfl (by first | exact Or.inl rfl | exact Or.inr rfl)) (tg_name (i := 5) (by decide)) (
      jb_1 (js_set (i := 4) sc__law_whole_row.nd rfl (by first | exact Or.inl rfl | exact Or.inr rfl) (by decide) (je_bin or_add pr_add (jo_e (je_bin or_add pr_add (jo_v 4 (pv 4)) (jo_e (je_call (ok__law_turned_round T) (hr.mono (by decide)) T.m__law_turned_round T.F__law_turned_round.kp T.b__law_turned_round (ja_c (jo_v 0 (pv 0)) (ja_c (jo_v 5 (pv 5)) (ja_n))))))) (jo_v 4 (pv 4)))))) (
      jb_1 (js_ret (je_bin or_add pr_add (jo_e (je_bin or_add pr_add (jo_e (je_rev (jo_v 1 (pv 1)))) (jo_v 2 (pv 2)))) (jo_v 4 (pv 4)))))))
abbrev N_two_to : List Str := ["number", "found", "turn"]
theorem sc_two_to : FnScope N_two_to ["number"] (defScope (top 4)) := ⟨rfl, rfl, rfl, by decide +kernel, rfl, by decide +kernel, by decide +kernel⟩
theorem ok_two_to (T : Txt K mg) : Y.FnOk P w K mg base (L2.CX P w) 1 T.a_two_to T.d_two_to ["number"] (spY K cl0 false 1 fn_two_to) := by
  unfold fn_two_to
  exact fn_ok T.F_two_to sc_two_to rfl rfl (by decide) fun cdv A outer s H E hr => show JB _ _ _ _ _ m_two_to from
      jb_c (js_set (i := 1) sc_two_to.nd rfl (by first | exact Or.inl rfl | exact Or.inr rfl) (by decide) (je_int)) (
      jb_c (js_for (passes_of rfl) rfl (ji_rng1 (by rfl) T.z_range (jo_v 0 (pv 0))) (pg_name (i := 2) sc_two_to.nd rfl (by first | exact Or.inl rfl | exact Or.inr rfl)) (tg_name (i := 2) (by decide)) (
      jb_1 (js_aug 1 ip_mulC (fun _ _ h => cMul_ok h) sc_two_to.nd rfl (by first | exact Or.inl rfl | exact Or.inr rfl) (by decide) (je_int)))) (
      jb_1 (js_retV 1 (pv 1))))
abbrev N_LongRow___init__ : List Str := ["self", "folk"]
theorem sc_LongRow___init__ : FnScope N_LongRow___init__ ["self", "folk"] (defScope (inClass (top 8) 0)) := ⟨rfl, rfl, rfl, by decide +kernel, rfl, by decide +kernel, by decide +kernel⟩
theorem ok_LongRow___init__ (T : Txt K mg) : Y.FnOk P w K mg base (L2.CX P w) 2 T.a_LongRow___init__ T.d_LongRow___init__ ["self", "folk"] (spI K T.C_LongRow "LongRow" 2 0 m_LongRow) := by
  unfold m_LongRow
  exact init_ok (cl := cl0) T.F_LongRow___init__ sc_LongRow___init__ rfl rfl fun cdv A outer s H E hr =>
      jn_fld T.hC_LongRow T.cl_LongRow T.n_LongRow_folk (pv 0) (je_callB (cr_sortD hr.units) pr_sorted (by rfl) T.z_sorted (by rfl) (ja_c (jo_v 1 (pv 1)) (ja_n))) (
      jn_fld T.hC_LongRow T.cl_LongRow T.n_LongRow_half (pv 0) (je_bin op_fdivW pr_div (jo_e (je_callB cr_len pr_len (by rfl) T.z_len (by rfl) (ja_c (jo_e (je_fld T.hC_LongRow T.cl_LongRow T.n_LongRow_folk (jo_v 0 (pv 0)))) (ja_n)))) (jo_e (je_int))) (
      jn_fld T.hC_LongRow T.cl_LongRow T.n_LongRow_spare (pv 0) (je_bin op_mod pr_mod (jo_e (je_callB cr_len pr_len (by rfl) T.z_len (by rfl) (ja_c (jo_e (je_fld T.hC_LongRow T.cl_LongRow T.n_LongRow_folk (jo_v 0 (pv 0)))) (ja_n)))) (jo_e (je_int))) (
      jn_fld T.hC_LongRow T.cl_LongRow T.n_LongRow_rounds (pv 0) (je_bin op_sub pr_sub (jo_e (je_call (ok_two_to T) (hr.mono (by decide)) T.m_two_to T.F_two_to.kp T.b_two_to (ja_c (jo_e (je_fld T.hC_LongRow T.cl_LongRow T.n_LongRow_half (jo_v 0 (pv 0)))) (ja_n)))) (jo_e (je_int))) (
      jn_fld T.hC_LongRow T.cl_LongRow T.n_LongRow_begin (pv 0) (je_bin or_add pr_add (jo_e (je_fld T.hC_LongRow T.cl_LongRow T.n_LongRow_half (jo_v 0 (pv 0)))) (jo_e (je_fld T.hC_LongRow T.cl_LongRow T.n_LongRow_spare (jo_v 0 (pv 0))))) (
      jn_nil)))))
abbrev N_ones_in : List Str := ["number", "found"]
theorem sc_ones_in : FnScope N_ones_in ["number"] (defScope (top 6)) := ⟨rfl, rfl, rfl, by decide +kernel, rfl, by decide +kernel, by decide +kernel⟩
theorem ok_ones_in (T : Txt K mg) : Y.FnOk P w K mg base (L2.CX P w) 1 T.a_ones_in T.d_ones_in ["number"] (spY K cl0 false 1 fn_ones_in) := by
  unfold fn_ones_in
  exact fn_ok T.F_ones_in sc_ones_in rfl rfl (by decide) fun cdv A outer s H E hr => show JB _ _ _ _ _ m_ones_in from
      jb_c (js_set (i := 1) sc_ones_in.nd rfl (by first | exact Or.inl rfl | exact Or.inr rfl) (by decide) (je_int)) (
      jb_c (js_while (passes_of rfl) (jt_cmp op_gt (nomark _) pr_gt (jo_v 0 (pv 0)) (jo_e (je_int))) (
      jb_c (js_aug 1 ip_addC (fun _ _ _ => trivial) sc_ones_in.nd rfl (by first | exact Or.inl rfl | exact Or.inr rfl) (by decide) (je_bin op_mod pr_mod (jo_v 0 (pv 0)) (jo_e (je_int)))) (
      jb_1 (js_aug 0 ip_fdivC (fun _ _ h => cDiv_ok h) sc_ones_in.nd rfl (by first | exact Or.inl rfl | exact Or.inr rfl) (by decide) (je_int))))) (
      jb_1 (js_retV 1 (pv 1))))
abbrev N_LongRow_behind : List Str := ["self", "rounds"]
theorem sc_LongRow_behind : FnScope N_LongRow_behind ["self", "rounds"] (defScope (inClass (top 8) 3)) := ⟨rfl, rfl, rfl, by decide +kernel, rfl, by decide +kernel, by decide +kernel⟩
theorem ok_LongRow_behind (T : Txt K mg) : Y.FnOk P w K mg base (L2.CX P w) 2 T.a_LongRow_behind T.d_LongRow_behind ["self", "rounds"] (spY K cl0 false 2 fn_LongRow_behind) := by
  unfold fn_LongRow_behind
  exact fn_ok T.F_LongRow_behind sc_LongRow_behind rfl rfl (by decide) fun cdv A outer s H E hr => show JB _ _ _ _ _ m_LongRow_behind from
      jb_1 (js_ret (je_bin or_add pr_add (jo_e (je_bin or_add pr_add (jo_e (je_fld T.hC_LongRow T.cl_LongRow T.n_LongRow_begin (jo_v 0 (pv 0)))) (jo_e (je_bin or_mul pr_mul (jo_e (je_int)) (jo_e (je_bin op_sub pr_sub (jo_e (je_bin or_mul pr_mul (jo_e (je_int)) (jo_v 1 (pv 1)))) (jo_e (je_call (ok_ones_in T) (hr.mono (by decide)) T.m_ones_in T.F_ones_in.kp T.b_ones_in (ja_c (jo_v 1 (pv 1)) (ja_n)))))))))) (jo_e (je_bin or_mul pr_mul (jo_e (je_bin or_mul pr_mul (jo_e (je_int)) (jo_e (je_fld T.hC_LongRow T.cl_LongRow T.n_LongRow_spare (jo_v 0 (pv 0)))))) (jo_v 1 (pv 1))))))
abbrev N_LongRow_high : List Str := ["self", "number"]
theorem sc_LongRow_high : FnScope N_LongRow_high ["self", "number"] (defScope (inClass (top 8) 1)) := ⟨rfl, rfl, rfl, by decide +kernel, rfl, by decide +kernel, by decide +kernel⟩
theorem ok_LongRow_high (T : Txt K mg) : Y.FnOk P w K mg base (L2.CX P w) 1 T.a_LongRow_high T.d_LongRow_high ["self", "number"] (spY K cl0 false 2 fn_LongRow_high) := by
  unfold fn_LongRow_high
  exact fn_ok T.F_LongRow_high sc_LongRow_high rfl rfl (by decide) fun cdv A outer s H E hr => show JB _ _ _ _ _ m_LongRow_high from
      jb_1 (js_ret (je_ix ix_seq pr_ix (jo_e (je_fld T.hC_LongRow T.cl_LongRow T.n_LongRow_folk (jo_v 0 (pv 0)))) (jo_e (je_bin op_sub pr_sub (jo_e (je_bin or_add pr_add (jo_e (je_fld T.hC_LongRow T.cl_LongRow T.n_LongRow_begin (jo_v 0 (pv 0)))) (jo_v 1 (pv 1)))) (jo_e (je_int)))) (fun _ _ => rfl)))
abbrev N_LongRow_low : List Str := ["self", "number"]
theorem sc_LongRow_low : FnScope N_LongRow_low ["self", "number"] (defScope (inClass (top 8) 2)) := ⟨rfl, rfl, rfl, by decide +kernel, rfl, by decide +kernel, by decide +kernel⟩
theorem ok_LongRow_low (T : Txt K mg) : Y.FnOk P w K mg base (L2.CX P w) 1 T.a_LongRow_low T.d_LongRow_low ["self", "number"] (spY K cl0 false 2 fn_LongRow_low) := by
  unfold fn_LongRow_low
  exact fn_ok T.F_LongRow_low sc_LongRow_low rfl rfl (by decide) fun cdv A outer s H E hr => show JB _ _ _ _ _ m_LongRow_low from
      jb_1 (js_ret (je_ix ix_seq pr_ix (jo_e (je_fld T.hC_LongRow T.cl_LongRow T.n_LongRow_folk (jo_v 0 (pv 0)))) (jo_e (je_bin op_sub pr_sub (jo_e (je_fld T.hC_LongRow T.cl_LongRow T.n_LongRow_half (jo_v 0 (pv 0)))) (jo_v 1 (pv 1)))) (fun _ _ => rfl)))
abbrev N_twos_in : List Str := ["number", "found"]
theorem sc_twos_in : FnScope N_twos_in ["number"] (defScope (top 7)) := ⟨rfl, rfl, rfl, by decide +kernel, rfl, by decide +kernel, by decide +kernel⟩
theorem ok_twos_in (T : Txt K mg) : Y.FnOk P w K mg base (L2.CX P w) 1 T.a_twos_in T.d_twos_in ["number"] (spY K cl0 false 1 fn_twos_in) := by
  unfold fn_twos_in
  exact fn_ok T.F_twos_in sc_twos_in rfl rfl (by decide) fun cdv A outer s H E hr => show JB _ _ _ _ _ m_twos_in from
      jb_c (js_set (i := 1) sc_twos_in.nd rfl (by first | exact Or.inl rfl | exact Or.inr rfl) (by decide) (je_int)) (
      jb_c (js_while (passes_of rfl) (jt_cmp (or_eq hr.units) (nomark _) pr_eq (jo_e (je_bin op_mod pr_mod (jo_v 0 (pv 0)) (jo_e (je_int)))) (jo_e (je_int))) (
      jb_c (js_aug 0 ip_fdivC (fun _ _ h => cDiv_ok h) sc_twos_in.nd rfl (by first | exact Or.inl rfl | exact Or.inr rfl) (by decide) (je_int)) (
      jb_1 (js_aug 1 ip_addC (fun _ _ _ => trivial) sc_twos_in.nd rfl (by first | exact Or.inl rfl | exact Or.inr rfl) (by decide) (je_int))))) (
      jb_1 (js_retV 1 (pv 1))))
abbrev N_LongRow_in_round : List Str := ["self", "number", "steps", "midst", "step"]
theorem sc_LongRow_in_round : FnScope N_LongRow_in_round ["self", "number"] (defScope (inClass (top 8) 6)) := ⟨rfl, rfl, rfl, by decide +kernel, rfl, by decide +kernel, by decide +kernel⟩
theorem ok_LongRow_in_round (T : Txt K mg) : Y.FnOk P w K mg base (L2.CX P w) 2 T.a_LongRow_in_round T.d_LongRow_in_round ["self", "number"] (spY K cl0 false 2 fn_LongRow_in_round) := by
  unfold fn_LongRow_in_round
  exact fn_ok T.F_LongRow_in_round sc_LongRow_in_round rfl rfl (by decide) fun cdv A outer s H E hr => show JB _ _ _ _ _ m_LongRow_in_round from
      jb_c (js_set (i := 2) sc_LongRow_in_round.nd rfl (by first | exact Or.inl rfl | exact Or.inr rfl) (by decide) (je_lrg rfl (by rfl) T.z_list (by rfl) T.z_range (ja_c (jo_e (je_bin or_add pr_add (jo_e (je_int)) (jo_e (je_call (ok_twos_in T) (hr.mono (by decide)) T.m_twos_in T.F_twos_in.kp T.b_twos_in (ja_c (jo_v 1 (pv 1)) (ja_n)))))) (ja_c (jo_e (je_int)) (ja_c (jo_e (je_un un_neg pr_neg (jo_e (je_int)))) (ja_n)))))) (
      jb_c (js_set (i := 3) sc_LongRow_in_round.nd rfl (by first | exact Or.inl rfl | exact Or.inr rfl) (by decide) (je_sl (jo_e (je_fld T.hC_LongRow T.cl_LongRow T.n_LongRow_folk (jo_v 0 (pv 0)))) (.some (je_fld T.hC_LongRow T.cl_LongRow T.n_LongRow_half (jo_v 0 (pv 0)))) (.some (je_fld T.hC_LongRow T.cl_LongRow T.n_LongRow_begin (jo_v 0 (pv 0)))))) (
      jb_1 (js_ret (je_bin or_add pr_add (jo_e (je_bin or_add pr_add (jo_e (je_bin or_add pr_add (jo_e (je_lc (own := [("step", 4)]) false rfl sc_LongRow_in_round.nd (ji_seq (jo_v 2 (pv 2))) (blkOk_by (own := [("step", 4)]) (N := N_LongRow_in_round) (sc := (defScope (inClass (top 8) 6))) (by decide +kernel)) (fun _ _ _ _ _ => pg_name (i := 4) sc_LongRow_in_round.nd rfl (by first | exact Or.inl rfl | exact Or.inr rfl)) (tg_name (i := 4) (by decide)) (tw_name (i := 4) (by decide)) (fun _ _ _ _ _ => jts_nil) (fun _ _ _ _ _ => je_meth T.hC_LongRow T.cl_LongRow T.h_LongRow_high (ok_LongRow_high T) (hr.mono (by decide)) T.b_LongRow_high (jo_v 0 (pv 0)) (ja_c (jo_v 4 (pv 4)) (ja_n))))) (jo_v 3 (pv 3)))) (jo_e (je_lc (own := [("step", 4)]) false rfl sc_LongRow_in_round.nd (ji_seq (jo_v 2 (pv 2))) (blkOk_by (own := [("step", 4)]) (N := N_LongRow_in_round) (sc := (defScope (inClass (top 8) 6))) (by decide +kernel)) (fun _ _ _ _ _ => pg_name (i := 4) sc_LongRow_in_round.nd rfl (by first | exact Or.inl rfl | exact Or.inr rfl)) (tg_name (i := 4) (by decide)) (tw_name (i := 4) (by decide)) (fun _ _ _ _ _ => jts_nil) (fun _ _ _ _ _ => je_meth T.hC_LongRow T.cl_LongRow T.h_LongRow_low (ok_LongRow_low T) (hr.mono (by decide)) T.b_LongRow_low (jo_v 0 (pv 0)) (ja_c (jo_v 4 (pv 4)) (ja_n))))))) (jo_v 3 (pv 3))))))
abbrev N_LongRow_rounds_in : List Str := ["self", "place", "low", "high", "middle"]
theorem sc_LongRow_rounds_in : FnScope N_LongRow_rounds_in ["self", "place"] (defScope (inClass (top 8) 5)) := ⟨rfl, rfl, rfl, by decide +kernel, rfl, by decide +kernel, by decide +kernel⟩
theorem ok_LongRow_rounds_in (T : Txt K mg) : Y.FnOk P w K mg base (L2.CX P w) 3 T.a_LongRow_rounds_in T.d_LongRow_rounds_in ["self", "place"] (spY K cl0 false 2 fn_LongRow_rounds_in) := by
  unfold fn_LongRow_rounds_in
  exact fn_ok T.F_LongRow_rounds_in sc_LongRow_rounds_in rfl rfl (by decide) fun cdv A outer s H E hr => show JB _ _ _ _ _ m_LongRow_rounds_in from
      jb_c (js_par2 (i := 2) (j := 3) rfl sc_LongRow_rounds_in.nd rfl rfl (by decide) rfl rfl (by decide) (je_int) (je_bin or_add pr_add (jo_e (je_fld T.hC_LongRow T.cl_LongRow T.n_LongRow_rounds (jo_v 0 (pv 0)))) (jo_e (je_int))) rfl) (
      jb_c (js_while (passes_of rfl) (jt_cmp op_gt (nomark _) pr_gt (jo_e (je_bin op_sub pr_sub (jo_v 3 (pv 3)) (jo_v 2 (pv 2)))) (jo_e (je_int))) (
      jb_c (js_set (i := 4) sc_LongRow_rounds_in.nd rfl (by first | exact Or.inl rfl | exact Or.inr rfl) (by decide) (je_bin op_fdivW pr_div (jo_e (je_bin or_add pr_add (jo_v 2 (pv 2)) (jo_v 3 (pv 3)))) (jo_e (je_int)))) (
      jb_1 (js_if (jt_cmp op_le (nomark _) pr_le (jo_e (je_meth T.hC_LongRow T.cl_LongRow T.h_LongRow_behind (ok_LongRow_behind T) (hr.mono (by decide)) T.b_LongRow_behind (jo_v 0 (pv 0)) (ja_c (jo_v 4 (pv 4)) (ja_n)))) (jo_v 1 (pv 1))) (
      jb_1 (js_set (i := 2) sc_LongRow_rounds_in.nd rfl (by first | exact Or.inl rfl | exact Or.inr rfl) (by decide) (je_v 4 (pv 4)))) (jb_1 (js_set (i := 3) sc_LongRow_rounds_in.nd rfl (by first | exact Or.inl rfl | exact Or.inr rfl) (by decide) (je_v 4 (pv 4)))))))) (
      jb_1 (js_retV 2 (pv 2))))
abbrev N_LongRow_goer : List Str := ["self", "place", "done"]
theorem sc_LongRow_goer : FnScope N_LongRow_goer ["self", "place"] (defScope (inClass (top 8) 7)) := ⟨rfl, rfl, rfl, by decide +kernel, rfl, by decide +kernel, by decide +kernel⟩
theorem ok_LongRow_goer (T : Txt K mg) : Y.FnOk P w K mg base (L2.CX P w) 4 T.a_LongRow_goer T.d_LongRow_goer ["self", "place"] (spY K cl0 false 2 fn_LongRow_goer) := by
  unfold fn_LongRow_goer
  exact fn_ok T.F_LongRow_goer sc_LongRow_goer rfl rfl (by decide) fun cdv A outer s H E hr => show JB _ _ _ _ _ m_LongRow_goer from
      jb_c (js_if (jt_cmp op_lt (nomark _) pr_lt (jo_v 1 (pv 1)) (jo_e (je_fld T.hC_LongRow T.cl_LongRow T.n_LongRow_begin (jo_v 0 (pv 0))))) (
      jb_1 (js_ret (je_ix ix_seq pr_ix (jo_e (je_fld T.hC_LongRow T.cl_LongRow T.n_LongRow_folk (jo_v 0 (pv 0)))) (jo_v 1 (pv 1)) (fun _ _ => rfl)))) (jb_nil)) (
      jb_c (js_set (i := 2) sc_LongRow_goer.nd rfl (by first | exact Or.inl rfl | exact Or.inr rfl) (by decide) (je_meth T.hC_LongRow T.cl_LongRow T.h_LongRow_rounds_in (ok_LongRow_rounds_in T) (hr.mono (by decide)) T.b_LongRow_rounds_in (jo_v 0 (pv 0)) (ja_c (jo_v 1 (pv 1)) (ja_n)))) (
      jb_1 (js_ret (je_ix ix_seq pr_ix (jo_e (je_meth T.hC_LongRow T.cl_LongRow T.h_LongRow_in_round (ok_LongRow_in_round T) (hr.mono (by decide)) T.b_LongRow_in_round (jo_v 0 (pv 0)) (ja_c (jo_e (je_bin or_add pr_add (jo_v 2 (pv 2)) (jo_e (je_int)))) (ja_n)))) (jo_e (je_bin op_sub pr_sub (jo_v 1 (pv 1)) (jo_e (je_meth T.hC_LongRow T.cl_LongRow T.h_LongRow_behind (ok_LongRow_behind T) (hr.mono (by decide)) T.b_LongRow_behind (jo_v 0 (pv 0)) (ja_c (jo_v 2 (pv 2)) (ja_n)))))) (fun _ _ => rfl)))))
abbrev N_LongRow_long_size : List Str := ["self"]
theorem sc_LongRow_long_size : FnScope N_LongRow_long_size ["self"] (defScope (inClass (top 8) 4)) := ⟨rfl, rfl, rfl, by decide +kernel, rfl, by decide +kernel, by decide +kernel⟩
theorem ok_LongRow_long_size (T : Txt K mg) : Y.FnOk P w K mg base (L2.CX P w) 3 T.a_LongRow_long_size T.d_LongRow_long_size ["self"] (spY K cl0 false 1 fn_LongRow_long_size) := by
  unfold fn_LongRow_long_size
  exact fn_ok T.F_LongRow_long_size sc_LongRow_long_size rfl rfl (by decide) fun cdv A outer s H E hr => show JB _ _ _ _ _ m_LongRow_long_size from
      jb_1 (js_ret (je_meth T.hC_LongRow T.cl_LongRow T.h_LongRow_behind (ok_LongRow_behind T) (hr.mono (by decide)) T.b_LongRow_behind (jo_v 0 (pv 0)) (ja_c (jo_e (je_fld T.hC_LongRow T.cl_LongRow T.n_LongRow_rounds (jo_v 0 (pv 0)))) (ja_n))))
abbrev N_look_place : List Str := ["place", "many"]
theorem sc_look_place : FnScope N_look_place ["place", "many"] (defScope (top 9)) := ⟨rfl, rfl, rfl, by decide +kernel, rfl, by decide +kernel, by decide +kernel⟩
theorem ok_look_place (T : Txt K mg) : Y.FnOk P w K mg base (L2.CX P w) 1 T.a_look_place T.d_look_place ["place", "many"] (spY K cl0 false 2 fn_look_place) := by
  unfold fn_look_place
  exact fn_ok T.F_look_place sc_look_place rfl rfl (by decide) fun cdv A outer s H E hr => show JB _ _ _ _ _ m_look_place from
      jb_1 (js_if (jt_not (jt_chain op_le op_lt pr_le pr_lt (jo_e (je_int)) (jo_v 0 (pv 0)) (jo_v 1 (pv 1)))) (
      jb_1 (js_never)) (jb_nil))
abbrev N_long_goer : List Str := ["folk", "place", "own"]
theorem sc_long_goer : FnScope N_long_goer ["folk", "place"] (defScope (top 10)) := ⟨rfl, rfl, rfl, by decide +kernel, rfl, by decide +kernel, by decide +kernel⟩
theorem ok_long_goer (T : Txt K mg) : Y.FnOk P w K mg base (L2.CX P w) 5 T.a_long_goer T.d_long_goer ["folk", "place"] (spY K cl0 false 2 fn_long_goer) := by
  unfold fn_long_goer
  exact fn_ok T.F_long_goer sc_long_goer rfl rfl (by decide) fun cdv A outer s H E hr => show JB _ _ _ _ _ m_long_goer from
      jb_c (js_set (i := 2) sc_long_goer.nd rfl (by first | exact Or.inl rfl | exact Or.inr rfl) (by decide) (je_makeE fn_LongRow_e T.mk_LongRow T.hC_LongRow (ok_LongRow___init__ T) (hr.mono (by decide)) (by rfl) T.mg_LongRow T.b_LongRow___init__ (ja_c (jo_v 0 (pv 0)) (ja_n)))) (
      jb_c (js_expr (je_call (ok_look_place T) (hr.mono (by decide)) T.m_look_place T.F_look_place.kp T.b_look_place (ja_c (jo_v 1 (pv 1)) (ja_c (jo_e (je_meth0 T.hC_LongRow T.cl_LongRow T.h_LongRow_long_size (ok_LongRow_long_size T) (hr.mono (by decide)) T.b_LongRow_long_size (jo_v 2 (pv 2)))) (ja_n))))) (
      jb_1 (js_ret (je_meth T.hC_LongRow T.cl_LongRow T.h_LongRow_goer (ok_LongRow_goer T) (hr.mono (by decide)) T.b_LongRow_goer (jo_v 2 (pv 2)) (ja_c (jo_v 1 (pv 1)) (ja_n))))))
abbrev N_long_row : List Str := ["folk", "place", "many", "own", "at"]
theorem sc_long_row : FnScope N_long_row ["folk", "place", "many"] (defScope (top 11)) := ⟨rfl, rfl, rfl, by decide +kernel, rfl, by decide +kernel, by decide +kernel⟩
theorem ok_long_row (T : Txt K mg) : Y.FnOk P w K mg base (L2.CX P w) 5 T.a_long_row T.d_long_row ["folk", "place", "many"] (spY K cl0 false 3 fn_long_row) := by
  unfold fn_long_row
  exact fn_ok T.F_long_row sc_long_row rfl rfl (by decide) fun cdv A outer s H E hr => show JB _ _ _ _ _ m_long_row from
      jb_c (js_set (i := 3) sc_long_row.nd rfl (by first | exact Or.inl rfl | exact Or.inr rfl) (by decide) (je_makeE fn_LongRow_e T.mk_LongRow T.hC_LongRow (ok_LongRow___init__ T) (hr.mono (by decide)) (by rfl) T.mg_LongRow T.b_LongRow___init__ (ja_c (jo_v 0 (pv 0)) (ja_n)))) (
      jb_c (js_expr (je_call (ok_look_place T) (hr.mono (by decide)) T.m_look_place T.F_look_place.kp T.b_look_place (ja_c (jo_v 1 (pv 1)) (ja_c (jo_e (je_bin or_add pr_add (jo_e (je_meth0 T.hC_LongRow T.cl_LongRow T.h_LongRow_long_size (ok_LongRow_long_size T) (hr.mono (by decide)) T.b_LongRow_long_size (jo_v 3 (pv 3)))) (jo_e (je_int)))) (ja_n))))) (
      jb_1 (js_ret (je_lc (own := [("at", 4)]) false rfl sc_long_row.nd (ji_rng2 (by rfl) T.z_range (jo_v 1 (pv 1)) (jo_e (je_callB (call_min2 rfl) pr_min2 (by rfl) T.z_min (by rfl) (ja_c (jo_e (je_meth0 T.hC_LongRow T.cl_LongRow T.h_LongRow_long_size (ok_LongRow_long_size T) (hr.mono (by decide)) T.b_LongRow_long_size (jo_v 3 (pv 3)))) (ja_c (jo_e (je_bin or_add pr_add (jo_v 1 (pv 1)) (jo_v 2 (pv 2)))) (ja_n)))))) (blkOk_by (own := [("at", 4)]) (N := N_long_row) (sc := (defScope (top 11))) (by decide +kernel)) (fun _ _ _ _ _ => pg_name (i := 4) sc_long_row.nd rfl (by first | exact Or.inl rfl | exact Or.inr rfl)) (tg_name (i := 4) (by decide)) (tw_name (i := 4) (by decide)) (fun _ _ _ _ _ => jts_nil) (fun _ _ _ _ _ => je_meth T.hC_LongRow T.cl_LongRow T.h_LongRow_goer (ok_LongRow_goer T) (hr.mono (by decide)) T.b_LongRow_goer (jo_v 3 (pv 3)) (ja_c (jo_v 4 (pv 4)) (ja_n)))))))
abbrev N__law_right : List Str := ["_law_tape_here", "_law_row", "_law_strewn", "_law_kept", "_law_due", "_law_told", "_law_turn", "_law_at", "_law_size"]
theorem sc__law_right : FnScope N__law_right ["_law_tape_here"] (defScope (top 22)) := ⟨rfl, rfl, rfl, by decide +kernel, rfl, by decide +kernel, by decide +kernel⟩
theorem ok__law_right (T : Txt K mg) : Y.FnOk P w K mg base (L2.CX P w) 10 T.a__law_right T.d__law_right ["_law_tape_here"] (spY K cl0 true 1 fn__law_right) := by
  unfold fn__law_right
  exact fn_ok T.F__law_right sc__law_right rfl rfl (by decide) fun cdv A outer s H E hr => show JB _ _ _ _ _ m__law_right from
      jb_c (js_set (i := 1) sc__law_right.nd rfl (by first | exact Or.inl rfl | exact Or.inr rfl) (by decide) (je_callI (i := 0) (ok__law_weights T) (hr.mono (by decide)) T.m__law_weights T.F__law_weights.kp T.b__law_weights (ja_c (jo_v 0 (pv 0)) (ja_c (jo_e (je_bin or_add pr_add (jo_e (je_int)) (jo_e (je_callI (i := 0) (ok__law_draw T) (hr.mono (by decide)) T.m__law_draw T.F__law_draw.kp T.b__law_draw (ja_c (jo_v 0 (pv 0)) (ja_c (jo_e (je_int)) (ja_n))))))) (ja_n))))) (
      jb_c (js_set (i := 2) sc__law_right.nd rfl (by first | exact Or.inl rfl | exact Or.inr rfl) (by decide) (je_callI (i := 0) (ok__law_part T) (hr.mono (by decide)) T.m__law_part T.F__law_part.kp T.b__law_part (ja_c (jo_v 0 (pv 0)) (ja_c (jo_v 1 (pv 1)) (ja_c (jo_e (je_callB cr_len pr_len (by rfl) T.z_len (by rfl) (ja_c (jo_v 1 (pv 1)) (ja_n)))) (ja_n)))))) (
      jb_c (js_par2 (i := 3) (j := 4) rfl sc__law_right.nd rfl rfl (by decide) rfl rfl (by decide) (je_callB (cr_repr hr.units hr.gd) pr_repr (by rfl) T.z_repr (by rfl) (ja_c (jo_v 2 (pv 2)) (ja_n))) (je_call (ok__law_whole_row T) (hr.mono (by decide)) T.m__law_whole_row T.F__law_whole_row.kp T.b__law_whole_row (ja_c (jo_v 1 (pv 1)) (ja_n))) rfl) (
      jb_c (js_set (i := 5) sc__law_right.nd rfl (by first | exact Or.inl rfl | exact Or.inr rfl) (by decide) (je_lstO (jh_c (je_call (ok_long_row T) (hr.mono (by decide)) T.m_long_row T.F_long_row.kp T.b_long_row (ja_c (jo_v 2 (pv 2)) (ja_c (jo_e (je_int)) (ja_c (jo_e (je_callB cr_len pr_len (by rfl) T.z_len (by rfl) (ja_c (jo_v 4 (pv 4)) (ja_n)))) (ja_n))))) (jh_c (je_callK0 (ok_long_row T) (hr.mono (by decide)) T.m_long_row T.F_long_row.kp T.k_long_row_0 (jk_c (jo_e (je_callT call_tuple_of pr_tuple (by rfl) T.z_tuple (by rfl) (ja_c (jo_v 1 (pv 1)) (ja_n)))) (jk_c (jo_e (je_int)) (jk_c (jo_e (je_bin op_pow pr_pow (jo_e (je_int)) (jo_e (je_int)))) (jk_n))))) (jh_n))))) (
      jb_c (js_if (jt_not (jt_val (je_call (ok__law_same T 8) (hr.mono (by decide)) T.m__law_same T.F__law_same.kp T.b__law_same (ja_c (jo_v 5 (pv 5)) (ja_c (jo_e (je_lst (ja_c (jo_v 4 (pv 4)) (ja_c (jo_v 4 (pv 4)) (ja_n))))) (ja_n)))))) (
      jb_1 (js_ret (je_bl))) (jb_nil)) (
      jb_c (js_apN (jpa_c (jpa_n 5 (pv 5)) (je_int) (fun _ _ => rfl)) (je_str)) (
      jb_c (js_revN (jpa_c (jpa_n 5 (pv 5)) (je_int) (fun _ _ => rfl))) (
      jb_c (js_for (passes_of rfl) rfl (ji_rng1 (by rfl) T.z_range (jo_e (je_int))) (pg_name (i := 6) sc__law_right.nd rfl (by first | exact Or.inl rfl | exact Or.inr rfl)) (tg_name (i := 6) (by decide)) (
      jb_c (js_par2 (i := 7) (j := 8) rfl sc__law_right.nd rfl rfl (by decide) rfl rfl (by decide) (je_callI (i := 0) (ok__law_draw T) (hr.mono (by decide)) T.m__law_draw T.F__law_draw.kp T.b__law_draw (ja_c (jo_v 0 (pv 0)) (ja_c (jo_e (je_bin or_add pr_add (jo_e (je_callB cr_len pr_len (by rfl) T.z_len (by rfl) (ja_c (jo_v 4 (pv 4)) (ja_n)))) (jo_e (je_int)))) (ja_n)))) (je_callI (i := 0) (ok__law_draw T) (hr.mono (by decide)) T.m__law_draw T.F__law_draw.kp T.b__law_draw (ja_c (jo_v 0 (pv 0)) (ja_c (jo_e (je_int)) (ja_n)))) rfl) (
      jb_c (js_set (i := 5) sc__law_right.nd rfl (by first | exact Or.inl rfl | exact Or.inr rfl) (by decide) (je_lstO (jh_c (je_call (ok_long_row T) (hr.mono (by decide)) T.m_long_row T.F_long_row.kp T.b_long_row (ja_c (jo_v 2 (pv 2)) (ja_c (jo_v 7 (pv 7)) (ja_c (jo_v 8 (pv 8)) (ja_n))))) (jh_c (je_callK0 (ok_long_row T) (hr.mono (by decide)) T.m_long_row T.F_long_row.kp T.k_long_row_1 (jk_c (jo_v 8 (pv 8)) (jk_c (jo_v 1 (pv 1)) (jk_c (jo_v 7 (pv 7)) (jk_n))))) (jh_n))))) (
      jb_1 (js_if (jt_not (jt_val (je_call (ok__law_same T 8) (hr.mono (by decide)) T.m__law_same T.F__law_same.kp T.b__law_same (ja_c (jo_v 5 (pv 5)) (ja_c (jo_e (je_bin or_mul pr_mul (jo_e (je_lst (ja_c (jo_e (je_sl (jo_v 4 (pv 4)) (.some (je_v 7 (pv 7))) (.some (je_bin or_add pr_add (jo_v 7 (pv 7)) (jo_v 8 (pv 8)))))) (ja_n)))) (jo_e (je_int)))) (ja_n)))))) (
      jb_1 (js_ret (je_bl))) (jb_nil)))))) (
      jb_c (js_set (i := 5) sc__law_right.nd rfl (by first | exact Or.inl rfl | exact Or.inr rfl) (by decide) (je_lstO (jh_c (je_call (ok_long_row T) (hr.mono (by decide)) T.m_long_row T.F_long_row.kp T.b_long_row (ja_c (jo_v 1 (pv 1)) (ja_c (jo_e (je_callB cr_len pr_len (by rfl) T.z_len (by rfl) (ja_c (jo_v 4 (pv 4)) (ja_n)))) (ja_c (jo_e (je_int)) (ja_n))))) (jh_c (je_call (ok_long_row T) (hr.mono (by decide)) T.m_long_row T.F_long_row.kp T.b_long_row (ja_c (jo_v 1 (pv 1)) (ja_c (jo_e (je_int)) (ja_c (jo_e (je_int)) (ja_n))))) (jh_c (je_call (ok_long_row T) (hr.mono (by decide)) T.m_long_row T.F_long_row.kp T.b_long_row (ja_c (jo_v 1 (pv 1)) (ja_c (jo_e (je_bin op_sub pr_sub (jo_e (je_callB cr_len pr_len (by rfl) T.z_len (by rfl) (ja_c (jo_v 4 (pv 4)) (ja_n)))) (jo_e (je_int)))) (ja_c (jo_e (je_int)) (ja_n))))) (jh_n)))))) (
      jb_c (js_if (jt_not (jt_val (je_call (ok__law_same T 8) (hr.mono (by decide)) T.m__law_same T.F__law_same.kp T.b__law_same (ja_c (jo_v 5 (pv 5)) (ja_c (jo_e (je_lst (ja_c (jo_e (je_lst (ja_n))) (ja_c (jo_e (je_lst (ja_n))) (ja_c (jo_e (je_sl (jo_v 4 (pv 4)) (.some (je_un un_neg pr_neg (jo_e (je_int)))) .none)) (ja_n)))))) (ja_n)))))) (
      jb_1 (js_ret (je_bl))) (jb_nil)) (
      jb_c (js_for (passes_of rfl) rfl (ji_rng1 (by rfl) T.z_range (jo_e (je_int))) (pg_name (i := 6) sc__law_right.nd rfl (by first | exact Or.inl rfl | exact Or.inr rfl)) (tg_name (i := 6) (by decide)) (
      jb_c (js_set (i := 7) sc__law_right.nd rfl (by first | exact Or.inl rfl | exact Or.inr rfl) (by decide) (je_callI (i := 0) (ok__law_draw T) (hr.mono (by decide)) T.m__law_draw T.F__law_draw.kp T.b__law_draw (ja_c (jo_v 0 (pv 0)) (ja_c (jo_e (je_callB cr_len pr_len (by rfl) T.z_len (by rfl) (ja_c (jo_v 4 (pv 4)) (ja_n)))) (ja_n))))) (
      jb_1 (js_if (jt_not (jt_val (je_call (ok__law_same T 8) (hr.mono (by decide)) T.m__law_same T.F__law_same.kp T.b__law_same (ja_c (jo_e (je_lst (ja_c (jo_e (je_call (ok_long_goer T) (hr.mono (by decide)) T.m_long_goer T.F_long_goer.kp T.b_long_goer (ja_c (jo_v 2 (pv 2)) (ja_c (jo_v 7 (pv 7)) (ja_n))))) (ja_c (jo_e (je_callK0 (ok_long_goer T) (hr.mono (by decide)) T.m_long_goer T.F_long_goer.kp T.k_long_goer_0 (jk_c (jo_v 7 (pv 7)) (jk_c (jo_e (je_callT call_tuple_of pr_tuple (by rfl) T.z_tuple (by rfl) (ja_c (jo_v 2 (pv 2)) (ja_n)))) (jk_n))))) (ja_n))))) (ja_c (jo_e (je_bin or_mul pr_mul (jo_e (je_lst (ja_c (jo_e (je_ix ix_seq pr_ix (jo_v 4 (pv 4)) (jo_v 7 (pv 7)) (fun _ _ => rfl))) (ja_n)))) (jo_e (je_int)))) (ja_n)))))) (
      jb_1 (js_ret (je_bl))) (jb_nil))))) (
      jb_1 (js_ret (je_cmp (or_eq hr.units) (nomark _) pr_eq (jo_e (je_callB (cr_repr hr.units hr.gd) pr_repr (by rfl) T.z_repr (by rfl) (ja_c (jo_v 2 (pv 2)) (ja_n)))) (jo_v 3 (pv 3)))))))))))))))
abbrev N__law_tape : List Str := ["_law_script", "_law_k", "_law_cell"]
theorem sc__law_tape : FnScope N__law_tape ["_law_script", "_law_k"] (defScope (top 13)) := ⟨rfl, rfl, rfl, by decide +kernel, rfl, by decide +kernel, by decide +kernel⟩
theorem ok__law_tape (T : Txt K mg) : Y.FnOk P w K mg base (L2.CX P w) 1 T.a__law_tape T.d__law_tape ["_law_script", "_law_k"] (spY K cl0 false 2 fn__law_tape) := by
  unfold fn__law_tape
  exact fn_ok T.F__law_tape sc__law_tape rfl rfl (by decide) fun cdv A outer s H E hr => show JB _ _ _ _ _ m__law_tape from
      jb_c (js_set (i := 2) sc__law_tape.nd rfl (by first | exact Or.inl rfl | exact Or.inr rfl) (by decide) (je_if (jt_cmp op_lt (nomark _) pr_lt (jo_v 1 (pv 1)) (jo_e (je_callB cr_len pr_len (by rfl) T.z_len (by rfl) (ja_c (jo_v 0 (pv 0)) (ja_n))))) (je_ix ix_seq pr_ix (jo_v 0 (pv 0)) (jo_v 1 (pv 1)) (fun _ _ => rfl)) (je_int))) (
      jb_1 (js_ret (je_lst (ja_c (jo_e (je_bin or_mul pr_mul (jo_e (je_callB call_abs pr_abs (by rfl) T.z_abs (by rfl) (ja_c (jo_v 2 (pv 2)) (ja_n)))) (jo_e (je_callT call_int1 pr_int (by rfl) T.z_int (by rfl) (ja_c (jo_e (je_cmp op_ge (nomark _) pr_ge (jo_e (je_callB call_abs pr_abs (by rfl) T.z_abs (by rfl) (ja_c (jo_v 2 (pv 2)) (ja_n)))) (jo_e (je_bin op_pow pr_pow (jo_e (je_int)) (jo_e (je_int)))))) (ja_n)))))) (ja_c (jo_e (je_bin or_add pr_add (jo_e (je_bin or_add pr_add (jo_e (je_bin op_mod pr_mod (jo_v 2 (pv 2)) (jo_e (je_int)))) (jo_e (je_bin or_mul pr_mul (jo_e (je_int)) (jo_v 1 (pv 1)))))) (jo_e (je_int)))) (ja_c (jo_e (je_int)) (ja_n)))))))
abbrev N_law : List Str := ["_law_script", "_law_cells", "_law_k"]
theorem sc_law : FnScope N_law ["_law_script"] (defScope (top 23)) := ⟨rfl, rfl, rfl, by decide +kernel, rfl, by decide +kernel, by decide +kernel⟩
theorem ok_law (T : Txt K mg) : Y.FnOk P w K mg base (L2.CX P w) 11 T.a_law T.d_law ["_law_script"] (spY K cl0 false 1 fn_law) := by
  unfold fn_law
  exact fn_ok T.F_law sc_law rfl rfl (by decide) fun cdv A outer s H E hr => show JB _ _ _ _ _ m_law from
      jb_c (js_set (i := 1) sc_law.nd rfl (by first | exact Or.inl rfl | exact Or.inr rfl) (by decide) (je_call (ok__law_folded T) (hr.mono (by decide)) T.m__law_folded T.F__law_folded.kp T.b__law_folded (ja_c (jo_v 0 (pv 0)) (ja_c (jo_e (je_int)) (ja_n))))) (
      jb_1 (js_ret (je_callB (cr_all rfl) pr_all (by rfl) T.z_all (by rfl) (ja_c (jo_e (je_lc (own := [("_law_k", 2)]) false rfl sc_law.nd (ji_rng1 (by rfl) T.z_range (jo_e (je_callB (call_max2 rfl) pr_max2 (by rfl) T.z_max (by rfl) (ja_c (jo_e (je_int)) (ja_c (jo_e (je_callB cr_len pr_len (by rfl) T.z_len (by rfl) (ja_c (jo_v 1 (pv 1)) (ja_n)))) (ja_n)))))) (blkOk_by (own := [("_law_k", 2)]) (N := N_law) (sc := (defScope (top 23))) (by decide +kernel)) (fun _ _ _ _ _ => pg_name (i := 2) sc_law.nd rfl (by first | exact Or.inl rfl | exact Or.inr rfl)) (tg_name (i := 2) (by decide)) (tw_name (i := 2) (by decide)) (fun _ _ _ _ _ => jts_nil) (fun _ _ _ _ _ => je_callM (ok__law_right T) (hr.mono (by decide)) T.m__law_right T.F__law_right.kp T.b__law_right (ja_c (jo_e (je_call (ok__law_tape T) (hr.mono (by decide)) T.m__law_tape T.F__law_tape.kp T.b__law_tape (ja_c (jo_v 1 (pv 1)) (ja_c (jo_v 2 (pv 2)) (ja_n))))) (ja_n))))) (ja_n)))))
end
theorem all_mk {l : PySem.W.OpenLaw} {w : World} {K : PySem.W.Frag} {h : Heap} {mg : Str → Option Value} {fa : Addr} (X : K.In h) (G : h.Ns mainGlobals mg) (hfa : mg "law" = some (.ref fa))
    {C_LongRow : Addr} (aC_LongRow : PySem.W.nsIn K mainGlobals "LongRow" = some (some (.ref C_LongRow)))
    {f0 : Addr} {od0 an0 : Option Addr} {sl0 : Array (Option Value)} {oc0 kV0 dc0 pm0 cd0 ct0 : Value}
    (a0 : PySem.W.nsIn K mainGlobals "_law_folded" = some (some (.ref f0)))
    (l0 : K.lookup f0 = some ⟨oc0, od0, .func (PySem.W.fnOf "_law_folded" "_law_folded" (defArgs (top 15)) (defBody (top 15)) (defScope (top 15)) .none kV0 dc0 pm0 an0 cd0 ct0), sl0⟩) (c0 : PySem.W.codeIn K cd0 "_law_folded" = true) (k0 : PySem.W.keepIn K (.ref f0) = true)
    {f1 : Addr} {od1 an1 : Option Addr} {sl1 : Array (Option Value)} {oc1 kV1 dc1 pm1 cd1 ct1 : Value}
    (a1 : PySem.W.nsIn K mainGlobals "_law_draw" = some (some (.ref f1)))
    (l1 : K.lookup f1 = some ⟨oc1, od1, .func (PySem.W.fnOf "_law_draw" "_law_draw" (defArgs (top 14)) (defBody (top 14)) (defScope (top 14)) .none kV1 dc1 pm1 an1 cd1 ct1), sl1⟩) (c1 : PySem.W.codeIn K cd1 "_law_draw" = true) (k1 : PySem.W.keepIn K (.ref f1) = true)
    {f2 : Addr} {od2 an2 : Option Addr} {sl2 : Array (Option Value)} {oc2 kV2 dc2 pm2 cd2 ct2 : Value}
    (a2 : PySem.W.nsIn K mainGlobals "_law_part" = some (some (.ref f2)))
    (l2 : K.lookup f2 = some ⟨oc2, od2, .func (PySem.W.fnOf "_law_part" "_law_part" (defArgs (top 17)) (defBody (top 17)) (defScope (top 17)) .none kV2 dc2 pm2 an2 cd2 ct2), sl2⟩) (c2 : PySem.W.codeIn K cd2 "_law_part" = true) (k2 : PySem.W.keepIn K (.ref f2) = true)
    {f3 : Addr} {od3 an3 : Option Addr} {sl3 : Array (Option Value)} {oc3 kV3 dc3 pm3 cd3 ct3 : Value}
    (a3 : PySem.W.nsIn K mainGlobals "_law_same" = some (some (.ref f3)))
    (l3 : K.lookup f3 = some ⟨oc3, od3, .func (PySem.W.fnOf "_law_same" "_law_same" (defArgs (top 16)) (defBody (top 16)) (defScope (top 16)) .none kV3 dc3 pm3 an3 cd3 ct3), sl3⟩) (c3 : PySem.W.codeIn K cd3 "_law_same" = true) (k3 : PySem.W.keepIn K (.ref f3) = true)
    {f4 : Addr} {od4 an4 : Option Addr} {sl4 : Array (Option Value)} {oc4 kV4 dc4 pm4 cd4 ct4 : Value}
    (a4 : PySem.W.nsIn K mainGlobals "_law_weights" = some (some (.ref f4)))
    (l4 : K.lookup f4 = some ⟨oc4, od4, .func (PySem.W.fnOf "_law_weights" "_law_weights" (defArgs (top 18)) (defBody (top 18)) (defScope (top 18)) .none kV4 dc4 pm4 an4 cd4 ct4), sl4⟩) (c4 : PySem.W.codeIn K cd4 "_law_weights" = true) (k4 : PySem.W.keepIn K (.ref f4) = true)
    {f5 : Addr} {od5 an5 : Option Addr} {sl5 : Array (Option Value)} {oc5 kV5 dc5 pm5 cd5 ct5 : Value}
    (a5 : PySem.W.nsIn K mainGlobals "_law_parts" = some (some (.ref f5)))
    (l5 : K.lookup f5 = some ⟨oc5, od5, .func (PySem.W.fnOf "_law_parts" "_law_parts" (defArgs (top 19)) (defBody (top 19)) (defScope (top 19)) .none kV5 dc5 pm5 an5 cd5 ct5), sl5⟩) (c5 : PySem.W.codeIn K cd5 "_law_parts" = true) (k5 : PySem.W.keepIn K (.ref f5) = true)
    {f6 : Addr} {od6 an6 : Option Addr} {sl6 : Array (Option Value)} {oc6 kV6 dc6 pm6 cd6 ct6 : Value}
    (a6 : PySem.W.nsIn K mainGlobals "_law_turned_round" = some (some (.ref f6)))
    (l6 : K.lookup f6 = some ⟨oc6, od6, .func (PySem.W.fnOf "_law_turned_round" "_law_turned_round" (defArgs (top 20)) (defBody (top 20)) (defScope (top 20)) .none kV6 dc6 pm6 an6 cd6 ct6), sl6⟩) (c6 : PySem.W.codeIn K cd6 "_law_turned_round" = true) (k6 : PySem.W.keepIn K (.ref f6) = true)
    {f7 : Addr} {od7 an7 : Option Addr} {sl7 : Array (Option Value)} {oc7 kV7 dc7 pm7 cd7 ct7 : Value}
    (a7 : PySem.W.nsIn K mainGlobals "_law_whole_row" = some (some (.ref f7)))
    (l7 : K.lookup f7 = some ⟨oc7, od7, .func (PySem.W.fnOf "_law_whole_row" "_law_whole_row" (defArgs (top 21)) (defBody (top 21)) (defScope (top 21)) .none kV7 dc7 pm7 an7 cd7 ct7), sl7⟩) (c7 : PySem.W.codeIn K cd7 "_law_whole_row" = true) (k7 : PySem.W.keepIn K (.ref f7) = true)
    {f8 : Addr} {od8 an8 : Option Addr} {sl8 : Array (Option Value)} {oc8 kV8 dc8 pm8 cd8 ct8 : Value}
    (a8 : PySem.W.nsIn K mainGlobals "two_to" = some (some (.ref f8)))
    (l8 : K.lookup f8 = some ⟨oc8, od8, .func (PySem.W.fnOf "two_to" "two_to" (defArgs (top 4)) (defBody (top 4)) (defScope (top 4)) .none kV8 dc8 pm8 an8 cd8 ct8), sl8⟩) (c8 : PySem.W.codeIn K cd8 "two_to" = true) (k8 : PySem.W.keepIn K (.ref f8) = true)
    {f9 : Addr} {od9 an9 : Option Addr} {sl9 : Array (Option Value)} {oc9 kV9 dc9 pm9 cd9 ct9 : Value}
    (a9 : PySem.W.findIn K (.ref C_LongRow) "__init__" = some (some (.ref f9))) (i9 : PySem.W.isFn K (.ref f9) = true)
    (l9 : K.lookup f9 = some ⟨oc9, od9, .func (PySem.W.fnOf "__init__" "LongRow.__init__" (defArgs (inClass (top 8) 0)) (defBody (inClass (top 8) 0)) (defScope (inClass (top 8) 0)) .none kV9 dc9 pm9 an9 cd9 ct9), sl9⟩) (c9 : PySem.W.codeIn K cd9 "LongRow.__init__" = true) (k9 : PySem.W.keepIn K (.ref f9) = true)
    {f10 : Addr} {od10 an10 : Option Addr} {sl10 : Array (Option Value)} {oc10 kV10 dc10 pm10 cd10 ct10 : Value}
    (a10 : PySem.W.nsIn K mainGlobals "ones_in" = some (some (.ref f10)))
    (l10 : K.lookup f10 = some ⟨oc10, od10, .func (PySem.W.fnOf "ones_in" "ones_in" (defArgs (top 6)) (defBody (top 6)) (defScope (top 6)) .none kV10 dc10 pm10 an10 cd10 ct10), sl10⟩) (c10 : PySem.W.codeIn K cd10 "ones_in" = true) (k10 : PySem.W.keepIn K (.ref f10) = true)
    {f11 : Addr} {od11 an11 : Option Addr} {sl11 : Array (Option Value)} {oc11 kV11 dc11 pm11 cd11 ct11 : Value}
    (a11 : PySem.W.findIn K (.ref C_LongRow) "behind" = some (some (.ref f11))) (i11 : PySem.W.isFn K (.ref f11) = true)
    (l11 : K.lookup f11 = some ⟨oc11, od11, .func (PySem.W.fnOf "behind" "LongRow.behind" (defArgs (inClass (top 8) 3)) (defBody (inClass (top 8) 3)) (defScope (inClass (top 8) 3)) .none kV11 dc11 pm11 an11 cd11 ct11), sl11⟩) (c11 : PySem.W.codeIn K cd11 "LongRow.behind" = true) (k11 : PySem.W.keepIn K (.ref f11) = true)
    {f12 : Addr} {od12 an12 : Option Addr} {sl12 : Array (Option Value)} {oc12 kV12 dc12 pm12 cd12 ct12 : Value}
    (a12 : PySem.W.findIn K (.ref C_LongRow) "high" = some (some (.ref f12))) (i12 : PySem.W.isFn K (.ref f12) = true)
    (l12 : K.lookup f12 = some ⟨oc12, od12, .func (PySem.W.fnOf "high" "LongRow.high" (defArgs (inClass (top 8) 1)) (defBody (inClass (top 8) 1)) (defScope (inClass (top 8) 1)) .none kV12 dc12 pm12 an12 cd12 ct12), sl12⟩) (c12 : PySem.W.codeIn K cd12 "LongRow.high" = true) (k12 : PySem.W.keepIn K (.ref f12) = true)
    {f13 : Addr} {od13 an13 : Option Addr} {sl13 : Array (Option Value)} {oc13 kV13 dc13 pm13 cd13 ct13 : Value}
    (a13 : PySem.W.findIn K (.ref C_LongRow) "low" = some (some (.ref f13))) (i13 : PySem.W.isFn K (.ref f13) = true)
    (l13 : K.lookup f13 = some ⟨oc13, od13, .func (PySem.W.fnOf "low" "LongRow.low" (defArgs (inClass (top 8) 2)) (defBody (inClass (top 8) 2)) (defScope (inClass (top 8) 2)) .none kV13 dc13 pm13 an13 cd13 ct13), sl13⟩) (c13 : PySem.W.codeIn K cd13 "LongRow.low" = true) (k13 : PySem.W.keepIn K (.ref f13) = true)
    {f14 : Addr} {od14 an14 : Option Addr} {sl14 : Array (Option Value)} {oc14 kV14 dc14 pm14 cd14 ct14 : Value}
    (a14 : PySem.W.nsIn K mainGlobals "twos_in" = some (some (.ref f14)))
    (l14 : K.lookup f14 = some ⟨oc14, od14, .func (PySem.W.fnOf "twos_in" "twos_in" (defArgs (top 7)) (defBody (top 7)) (defScope (top 7)) .none kV14 dc14 pm14 an14 cd14 ct14), sl14⟩) (c14 : PySem.W.codeIn K cd14 "twos_in" = true) (k14 : PySem.W.keepIn K (.ref f14) = true)
    {f15 : Addr} {od15 an15 : Option Addr} {sl15 : Array (Option Value)} {oc15 kV15 dc15 pm15 cd15 ct15 : Value}
    (a15 : PySem.W.findIn K (.ref C_LongRow) "in_round" = some (some (.ref f15))) (i15 : PySem.W.isFn K (.ref f15) = true)
    (l15 : K.lookup f15 = some ⟨oc15, od15, .func (PySem.W.fnOf "in_round" "LongRow.in_round" (defArgs (inClass (top 8) 6)) (defBody (inClass (top 8) 6)) (defScope (inClass (top 8) 6)) .none kV15 dc15 pm15 an15 cd15 ct15), sl15⟩) (c15 : PySem.W.codeIn K cd15 "LongRow.in_round" = true) (k15 : PySem.W.keepIn K (.ref f15) = true)
    {f16 : Addr} {od16 an16 : Option Addr} {sl16 : Array (Option Value)} {oc16 kV16 dc16 pm16 cd16 ct16 : Value}
    (a16 : PySem.W.findIn K (.ref C_LongRow) "rounds_in" = some (some (.ref f16))) (i16 : PySem.W.isFn K (.ref f16) = true)
    (l16 : K.lookup f16 = some ⟨oc16, od16, .func (PySem.W.fnOf "rounds_in" "LongRow.rounds_in" (defArgs (inClass (top 8) 5)) (defBody (inClass (top 8) 5)) (defScope (inClass (top 8) 5)) .none kV16 dc16 pm16 an16 cd16 ct16), sl16⟩) (c16 : PySem.W.codeIn K cd16 "LongRow.rounds_in" = true) (k16 : PySem.W.keepIn K (.ref f16) = true)
    {f17 : Addr} {od17 an17 : Option Addr} {sl17 : Array (Option Value)} {oc17 kV17 dc17 pm17 cd17 ct17 : Value}
    (a17 : PySem.W.findIn K (.ref C_LongRow) "goer" = some (some (.ref f17))) (i17 : PySem.W.isFn K (.ref f17) = true)
    (l17 : K.lookup f17 = some ⟨oc17, od17, .func (PySem.W.fnOf "goer" "LongRow.goer" (defArgs (inClass (top 8) 7)) (defBody (inClass (top 8) 7)) (defScope (inClass (top 8) 7)) .none kV17 dc17 pm17 an17 cd17 ct17), sl17⟩) (c17 : PySem.W.codeIn K cd17 "LongRow.goer" = true) (k17 : PySem.W.keepIn K (.ref f17) = true)
    {f18 : Addr} {od18 an18 : Option Addr} {sl18 : Array (Option Value)} {oc18 kV18 dc18 pm18 cd18 ct18 : Value}
    (a18 : PySem.W.findIn K (.ref C_LongRow) "long_size" = some (some (.ref f18))) (i18 : PySem.W.isFn K (.ref f18) = true)
    (l18 : K.lookup f18 = some ⟨oc18, od18, .func (PySem.W.fnOf "long_size" "LongRow.long_size" (defArgs (inClass (top 8) 4)) (defBody (inClass (top 8) 4)) (defScope (inClass (top 8) 4)) .none kV18 dc18 pm18 an18 cd18 ct18), sl18⟩) (c18 : PySem.W.codeIn K cd18 "LongRow.long_size" = true) (k18 : PySem.W.keepIn K (.ref f18) = true)
    {f19 : Addr} {od19 an19 : Option Addr} {sl19 : Array (Option Value)} {oc19 kV19 dc19 pm19 cd19 ct19 : Value}
    (a19 : PySem.W.nsIn K mainGlobals "look_place" = some (some (.ref f19)))
    (l19 : K.lookup f19 = some ⟨oc19, od19, .func (PySem.W.fnOf "look_place" "look_place" (defArgs (top 9)) (defBody (top 9)) (defScope (top 9)) .none kV19 dc19 pm19 an19 cd19 ct19), sl19⟩) (c19 : PySem.W.codeIn K cd19 "look_place" = true) (k19 : PySem.W.keepIn K (.ref f19) = true)
    {f20 : Addr} {od20 an20 : Option Addr} {sl20 : Array (Option Value)} {oc20 kV20 dc20 pm20 cd20 ct20 : Value}
    (a20 : PySem.W.nsIn K mainGlobals "long_goer" = some (some (.ref f20)))
    (l20 : K.lookup f20 = some ⟨oc20, od20, .func (PySem.W.fnOf "long_goer" "long_goer" (defArgs (top 10)) (defBody (top 10)) (defScope (top 10)) .none kV20 dc20 pm20 an20 cd20 ct20), sl20⟩) (c20 : PySem.W.codeIn K cd20 "long_goer" = true) (k20 : PySem.W.keepIn K (.ref f20) = true)
    {f21 : Addr} {od21 an21 : Option Addr} {sl21 : Array (Option Value)} {oc21 kV21 dc21 pm21 cd21 ct21 : Value}
    (a21 : PySem.W.nsIn K mainGlobals "long_row" = some (some (.ref f21)))
    (l21 : K.lookup f21 = some ⟨oc21, od21, .func (PySem.W.fnOf "long_row" "long_row" (defArgs (top 11)) (defBody (top 11)) (defScope (top 11)) .none kV21 dc21 pm21 an21 cd21 ct21), sl21⟩) (c21 : PySem.W.codeIn K cd21 "long_row" = true) (k21 : PySem.W.keepIn K (.ref f21) = true)
    {f22 : Addr} {od22 an22 : Option Addr} {sl22 : Array (Option Value)} {oc22 kV22 dc22 pm22 cd22 ct22 : Value}
    (a22 : PySem.W.nsIn K mainGlobals "_law_right" = some (some (.ref f22)))
    (l22 : K.lookup f22 = some ⟨oc22, od22, .func (PySem.W.fnOf "_law_right" "_law_right" (defArgs (top 22)) (defBody (top 22)) (defScope (top 22)) .none kV22 dc22 pm22 an22 cd22 ct22), sl22⟩) (c22 : PySem.W.codeIn K cd22 "_law_right" = true) (k22 : PySem.W.keepIn K (.ref f22) = true)
    {f23 : Addr} {od23 an23 : Option Addr} {sl23 : Array (Option Value)} {oc23 kV23 dc23 pm23 cd23 ct23 : Value}
    (a23 : PySem.W.nsIn K mainGlobals "_law_tape" = some (some (.ref f23)))
    (l23 : K.lookup f23 = some ⟨oc23, od23, .func (PySem.W.fnOf "_law_tape" "_law_tape" (defArgs (top 13)) (defBody (top 13)) (defScope (top 13)) .none kV23 dc23 pm23 an23 cd23 ct23), sl23⟩) (c23 : PySem.W.codeIn K cd23 "_law_tape" = true) (k23 : PySem.W.keepIn K (.ref f23) = true)
    {f24 : Addr} {od24 an24 : Option Addr} {sl24 : Array (Option Value)} {oc24 kV24 dc24 pm24 cd24 ct24 : Value}
    (a24 : PySem.W.nsIn K mainGlobals "law" = some (some (.ref f24)))
    (l24 : K.lookup f24 = some ⟨oc24, od24, .func (PySem.W.fnOf "law" "law" (defArgs (top 23)) (defBody (top 23)) (defScope (top 23)) .none kV24 dc24 pm24 an24 cd24 ct24), sl24⟩) (c24 : PySem.W.codeIn K cd24 "law" = true) (k24 : PySem.W.keepIn K (.ref f24) = true)
    (pg_LongRow : PySem.W.plainGet K C_LongRow Str.empty = true) (hd_LongRow : PySem.W.hasDictIn K C_LongRow = true) (po_LongRow : PySem.W.plainOver K C_LongRow = true) (sa_LongRow : PySem.W.findIn K (.ref C_LongRow) "__setattr__" = some (some (.builtin "object.__setattr__"))) (mk_LongRow : PySem.W.makesIn K C_LongRow = true) (kc_LongRow : PySem.W.keepIn K (.ref C_LongRow) = true)
    (n_LongRow_folk : PySem.W.findIn K (.ref C_LongRow) "folk" = some none)
    (n_LongRow_half : PySem.W.findIn K (.ref C_LongRow) "half" = some none)
    (n_LongRow_spare : PySem.W.findIn K (.ref C_LongRow) "spare" = some none)
    (n_LongRow_rounds : PySem.W.findIn K (.ref C_LongRow) "rounds" = some none)
    (n_LongRow_begin : PySem.W.findIn K (.ref C_LongRow) "begin" = some none)
    (z_abs : PySem.W.nsIn K mainGlobals "abs" = some none)
    (z_all : PySem.W.nsIn K mainGlobals "all" = some none)
    (z_bool : PySem.W.nsIn K mainGlobals "bool" = some none)
    (z_enumerate : PySem.W.nsIn K mainGlobals "enumerate" = some none)
    (z_int : PySem.W.nsIn K mainGlobals "int" = some none)
    (z_isinstance : PySem.W.nsIn K mainGlobals "isinstance" = some none)
    (z_len : PySem.W.nsIn K mainGlobals "len" = some none)
    (z_list : PySem.W.nsIn K mainGlobals "list" = some none)
    (z_max : PySem.W.nsIn K mainGlobals "max" = some none)
    (z_min : PySem.W.nsIn K mainGlobals "min" = some none)
    (z_range : PySem.W.nsIn K mainGlobals "range" = some none)
    (z_repr : PySem.W.nsIn K mainGlobals "repr" = some none)
    (z_sorted : PySem.W.nsIn K mainGlobals "sorted" = some none)
    (z_str : PySem.W.nsIn K mainGlobals "str" = some none)
    (z_tuple : PySem.W.nsIn K mainGlobals "tuple" = some none)
    (z_zip : PySem.W.nsIn K mainGlobals "zip" = some none)
    : ∃ fd : FuncData, (∀ (s : Shared) (v : Value), BindsTo s fd ⟨[v], []⟩ [("_law_script", v)]) ∧ ∀ base : Heap, K.In base → base.Ns mainGlobals mg → Y.FnOk l.prog w K mg base (L2.CX l.prog w) 11 fa fd ["_law_script"] (spY K cl0 false 1 fn_law) := by
  have e := hfa.symm.trans (PySem.W.mg_of X G a24)
  cases e
  have F0 := fun_mk (st := (top 15)) l0 c0 k0
  have F1 := fun_mk (st := (top 14)) l1 c1 k1
  have F2 := fun_mk (st := (top 17)) l2 c2 k2
  have F3 := fun_mk (st := (top 16)) l3 c3 k3
  have F4 := fun_mk (st := (top 18)) l4 c4 k4
  have F5 := fun_mk (st := (top 19)) l5 c5 k5
  have F6 := fun_mk (st := (top 20)) l6 c6 k6
  have F7 := fun_mk (st := (top 21)) l7 c7 k7
  have F8 := fun_mk (st := (top 4)) l8 c8 k8
  have F9 := fun_mk (st := (inClass (top 8) 0)) l9 c9 k9
  have F10 := fun_mk (st := (top 6)) l10 c10 k10
  have F11 := fun_mk (st := (inClass (top 8) 3)) l11 c11 k11
  have F12 := fun_mk (st := (inClass (top 8) 1)) l12 c12 k12
  have F13 := fun_mk (st := (inClass (top 8) 2)) l13 c13 k13
  have F14 := fun_mk (st := (top 7)) l14 c14 k14
  have F15 := fun_mk (st := (inClass (top 8) 6)) l15 c15 k15
  have F16 := fun_mk (st := (inClass (top 8) 5)) l16 c16 k16
  have F17 := fun_mk (st := (inClass (top 8) 7)) l17 c17 k17
  have F18 := fun_mk (st := (inClass (top 8) 4)) l18 c18 k18
  have F19 := fun_mk (st := (top 9)) l19 c19 k19
  have F20 := fun_mk (st := (top 10)) l20 c20 k20
  have F21 := fun_mk (st := (top 11)) l21 c21 k21
  have F22 := fun_mk (st := (top 22)) l22 c22 k22
  have F23 := fun_mk (st := (top 13)) l23 c23 k23
  have F24 := fun_mk (st := (top 23)) l24 c24 k24
  exact ⟨PySem.W.fnOf "law" "law" (defArgs (top 23)) (defBody (top 23)) (defScope (top 23)) .none kV24 dc24 pm24 an24 cd24 ct24, fun s v => .of_eq rfl, fun base _ _ => ok_law
    { a__law_folded := f0, d__law_folded := _, F__law_folded := F0, b__law_folded := F0.binds fun _ _ _ _ _ _ us hl => match us, hl with | [_, _], _ => rfl, m__law_folded := PySem.W.mg_of X G a0,
      a__law_draw := f1, d__law_draw := _, F__law_draw := F1, b__law_draw := F1.binds fun _ _ _ _ _ _ us hl => match us, hl with | [_, _], _ => rfl, m__law_draw := PySem.W.mg_of X G a1,
      a__law_part := f2, d__law_part := _, F__law_part := F2, b__law_part := F2.binds fun _ _ _ _ _ _ us hl => match us, hl with | [_, _, _], _ => rfl, m__law_part := PySem.W.mg_of X G a2,
      a__law_same := f3, d__law_same := _, F__law_same := F3, b__law_same := F3.binds fun _ _ _ _ _ _ us hl => match us, hl with | [_, _], _ => rfl, m__law_same := PySem.W.mg_of X G a3,
      a__law_weights := f4, d__law_weights := _, F__law_weights := F4, b__law_weights := F4.binds fun _ _ _ _ _ _ us hl => match us, hl with | [_, _], _ => rfl, m__law_weights := PySem.W.mg_of X G a4,
      a__law_parts := f5, d__law_parts := _, F__law_parts := F5, b__law_parts := F5.binds fun _ _ _ _ _ _ us hl => match us, hl with | [_], _ => rfl, m__law_parts := PySem.W.mg_of X G a5,
      a__law_turned_round := f6, d__law_turned_round := _, F__law_turned_round := F6, b__law_turned_round := F6.binds fun _ _ _ _ _ _ us hl => match us, hl with | [_, _], _ => rfl, m__law_turned_round := PySem.W.mg_of X G a6,
      a__law_whole_row := f7, d__law_whole_row := _, F__law_whole_row := F7, b__law_whole_row := F7.binds fun _ _ _ _ _ _ us hl => match us, hl with | [_], _ => rfl, m__law_whole_row := PySem.W.mg_of X G a7,
      a_two_to := f8, d_two_to := _, F_two_to := F8, b_two_to := F8.binds fun _ _ _ _ _ _ us hl => match us, hl with | [_], _ => rfl, m_two_to := PySem.W.mg_of X G a8,
      a_LongRow___init__ := f9, d_LongRow___init__ := _, F_LongRow___init__ := F9, b_LongRow___init__ := F9.binds fun _ _ _ _ _ _ us hl => match us, hl with | [_, _], _ => rfl, mk_LongRow := ⟨mk_LongRow, a9, i9, kc_LongRow⟩,
      a_ones_in := f10, d_ones_in := _, F_ones_in := F10, b_ones_in := F10.binds fun _ _ _ _ _ _ us hl => match us, hl with | [_], _ => rfl, m_ones_in := PySem.W.mg_of X G a10,
      a_LongRow_behind := f11, d_LongRow_behind := _, F_LongRow_behind := F11, b_LongRow_behind := F11.binds fun _ _ _ _ _ _ us hl => match us, hl with | [_, _], _ => rfl, h_LongRow_behind := ⟨a11, i11, k11⟩,
      a_LongRow_high := f12, d_LongRow_high := _, F_LongRow_high := F12, b_LongRow_high := F12.binds fun _ _ _ _ _ _ us hl => match us, hl with | [_, _], _ => rfl, h_LongRow_high := ⟨a12, i12, k12⟩,
      a_LongRow_low := f13, d_LongRow_low := _, F_LongRow_low := F13, b_LongRow_low := F13.binds fun _ _ _ _ _ _ us hl => match us, hl with | [_, _], _ => rfl, h_LongRow_low := ⟨a13, i13, k13⟩,
      a_twos_in := f14, d_twos_in := _, F_twos_in := F14, b_twos_in := F14.binds fun _ _ _ _ _ _ us hl => match us, hl with | [_], _ => rfl, m_twos_in := PySem.W.mg_of X G a14,
      a_LongRow_in_round := f15, d_LongRow_in_round := _, F_LongRow_in_round := F15, b_LongRow_in_round := F15.binds fun _ _ _ _ _ _ us hl => match us, hl with | [_, _], _ => rfl, h_LongRow_in_round := ⟨a15, i15, k15⟩,
      a_LongRow_rounds_in := f16, d_LongRow_rounds_in := _, F_LongRow_rounds_in := F16, b_LongRow_rounds_in := F16.binds fun _ _ _ _ _ _ us hl => match us, hl with | [_, _], _ => rfl, h_LongRow_rounds_in := ⟨a16, i16, k16⟩,
      a_LongRow_goer := f17, d_LongRow_goer := _, F_LongRow_goer := F17, b_LongRow_goer := F17.binds fun _ _ _ _ _ _ us hl => match us, hl with | [_, _], _ => rfl, h_LongRow_goer := ⟨a17, i17, k17⟩,
      a_LongRow_long_size := f18, d_LongRow_long_size := _, F_LongRow_long_size := F18, b_LongRow_long_size := F18.binds fun _ _ _ _ _ _ us hl => match us, hl with | [_], _ => rfl, h_LongRow_long_size := ⟨a18, i18, k18⟩,
      a_look_place := f19, d_look_place := _, F_look_place := F19, b_look_place := F19.binds fun _ _ _ _ _ _ us hl => match us, hl with | [_, _], _ => rfl, m_look_place := PySem.W.mg_of X G a19,
      a_long_goer := f20, d_long_goer := _, F_long_goer := F20, b_long_goer := F20.binds fun _ _ _ _ _ _ us hl => match us, hl with | [_, _], _ => rfl, m_long_goer := PySem.W.mg_of X G a20, k_long_goer_0 := F20.kb fun _ _ _ _ _ _ us ws h1 h2 => match us, ws, h1, h2 with | [], [_, _], _, _ => rfl,
      a_long_row := f21, d_long_row := _, F_long_row := F21, b_long_row := F21.binds fun _ _ _ _ _ _ us hl => match us, hl with | [_, _, _], _ => rfl, m_long_row := PySem.W.mg_of X G a21, k_long_row_0 := F21.kb fun _ _ _ _ _ _ us ws h1 h2 => match us, ws, h1, h2 with | [], [_, _, _], _, _ => rfl, k_long_row_1 := F21.kb fun _ _ _ _ _ _ us ws h1 h2 => match us, ws, h1, h2 with | [], [_, _, _], _, _ => rfl,
      a__law_right := f22, d__law_right := _, F__law_right := F22, b__law_right := F22.binds fun _ _ _ _ _ _ us hl => match us, hl with | [_], _ => rfl, m__law_right := PySem.W.mg_of X G a22,
      a__law_tape := f23, d__law_tape := _, F__law_tape := F23, b__law_tape := F23.binds fun _ _ _ _ _ _ us hl => match us, hl with | [_, _], _ => rfl, m__law_tape := PySem.W.mg_of X G a23,
      a_law := fa, d_law := _, F_law := F24, b_law := F24.binds fun _ _ _ _ _ _ us hl => match us, hl with | [_], _ => rfl, m_law := PySem.W.mg_of X G a24,
      C_LongRow := C_LongRow, hC_LongRow := aC_LongRow, cl_LongRow := ⟨pg_LongRow, hd_LongRow, po_LongRow, sa_LongRow⟩, mg_LongRow := PySem.W.mg_of X G aC_LongRow,
      n_LongRow_folk := n_LongRow_folk,
      n_LongRow_half := n_LongRow_half,
      n_LongRow_spare := n_LongRow_spare,
      n_LongRow_rounds := n_LongRow_rounds,
      n_LongRow_begin := n_LongRow_begin,
      z_abs := PySem.W.mg_none_of X G z_abs,
      z_all := PySem.W.mg_none_of X G z_all,
      z_bool := PySem.W.mg_none_of X G z_bool,
      z_enumerate := PySem.W.mg_none_of X G z_enumerate,
      z_int := PySem.W.mg_none_of X G z_int,
      z_isinstance := PySem.W.mg_none_of X G z_isinstance,
      z_len := PySem.W.mg_none_of X G z_len,
      z_list := PySem.W.mg_none_of X G z_list,
      z_max := PySem.W.mg_none_of X G z_max,
      z_min := PySem.W.mg_none_of X G z_min,
      z_range := PySem.W.mg_none_of X G z_range,
      z_repr := PySem.W.mg_none_of X G z_repr,
      z_sorted := PySem.W.mg_none_of X G z_sorted,
      z_str := PySem.W.mg_none_of X G z_str,
      z_tuple := PySem.W.mg_none_of X G z_tuple,
      z_zip := PySem.W.mg_none_of X G z_zip }⟩
theorem walk {l : PySem.W.OpenLaw} {q : Program} {loose : List Str} {XP : (Str → Option Value) → Heap → Prop} {YP : World → Heap → Prop} {d : DefRec} {K : Params → PySem.W.Frag} (hn : l.most = some 63) (hdf : d.params.defaults = [])
    (hY : ∀ (w : World) (h : Heap), YP w h → (K w.params).In h) (hlaw : ∀ ns : List Int, ns.length ≤ 63 → (∀ z ∈ ns, Builtin.Int.intBits z ≤ 1048576) → ∃ m z, fn_law [(.z (ns.map .i), .c)] = .rt (.b true, m) z)
    (F : ∀ (w : World) (mg : Str → Option Value) (fa : Addr) (h : Heap), (K w.params).In h → h.Ns mainGlobals mg → mg d.name = some (.ref fa) →
      ∃ fd : FuncData, (∀ (s : Shared) (u : Value), BindsTo s fd ⟨[u], []⟩ [("_law_script", u)]) ∧ ∀ base : Heap, (K w.params).In base → base.Ns mainGlobals mg → Y.FnOk l.prog w (K w.params) mg base (L2.CX l.prog w) 11 fa fd ["_law_script"] (spY (K w.params) cl0 false 1 fn_law)) :
    PySem.W.WalkO q loose XP YP l.row.toRowW d [] (fun f vs => PySem.call f vs) :=
  Y.walk_ofG (n := 63) (k := 11) (x := "_law_script") (CX := fun w => L2.CX l.prog w) (sp := fun w => spY (K w.params) cl0 false 1 fn_law) hn (by decide) hdf ⟨rfl, by decide, by decide⟩ hY F (fun w H a ns h1 h2 h3 h4 => law_in (hlaw ns h1 h2) h3 h4) fun w H s e s2 z => cx_never z
local macro_rules
  | `(tactic| simp_arith [$xs,*]) => `(tactic| try simp only [↓wO_some, ↓wO_none, ↓wL_some, ↓wL_none, ↓wG_some, ↓wK_some, ↓wK_none, ↓setK_0, ↓setK_s, ↓wB_t, ↓wB_f, ↓wG_0, ↓wG_s, ↓isC_0, ↓isC_1, ↓isC_2, ↓isC_s, ↓allC_n, ↓allC_d, ↓allC_v, ↓frzK_n, ↓frzK_d, ↓frzK_c, ↓frzK_w, ↓wX_0, ↓wX_s, ↓wZ_c, ↓wZ_i, ↓wZ_b, ↓wZ_u, ↓wZ_n, ↓wZ_l, ↓wZ_t, ↓wM_c, ↓wM_i, ↓wM_b, ↓wM_u, ↓wM_n, ↓wM_a, ↓wM_lc, ↓wM_lt, ↓wM_tc, ↓wLk_n, ↓wLk_d, ↓wLk_v, ↓wA_nil, ↓wA_e, ↓wA_v, ↓wE_K, ↓wE_V, ↓wE_P, ↓wE_C, ↓wE_CK, ↓wE_CI, ↓wE_CM, ↓wE_If, ↓wE_And, ↓wE_Or, ↓wE_Not, ↓wE_Lc, ↓wP_none, ↓wP_some, ↓wT_Te, ↓wT_Not, ↓wT_And, ↓wT_Or, ↓wT_Yes, ↓wI_S, ↓wS_nx, ↓wS_bk, ↓wS_ct, ↓wS_no, ↓wS_asg, ↓wS_expr, ↓wS_ret, ↓wS_retV, ↓wS_retN, ↓wS_if, ↓wLen_0, ↓wLen_s, ↓wK_tgV, ↓wK_tgI, ↓wK_tgT, ↓wK_tgTl, ↓wK_tgTz, ↓wK_tgs0, ↓wK_tgs, ↓isL_0, ↓isL_s, ↓wS_app, ↓wH_nil, ↓wH_cons, ↓wS_par, ↓wK_put0, ↓wK_put, ↓wS_aug, ↓wFn_mk, ↓wFn_mkI, ↓wAt_0, ↓wSt_0, ↓wAt_1, ↓wSt_1, ↓wAt_2, ↓wSt_2, ↓wAt_3, ↓wSt_3, ↓wAt_4, ↓wSt_4, ↓wAt_5, ↓wSt_5, ↓wAt_6, ↓wSt_6, ↓wAt_7, ↓wSt_7, ↓isT_n_list, ↓isT_b_list, ↓isT_i_list, ↓isT_s_list, ↓isT_t_list, ↓isT_l_list, ↓isT_z_list, ↓isT_n_tuple, ↓isT_b_tuple, ↓isT_i_tuple, ↓isT_s_tuple, ↓isT_t_tuple, ↓isT_l_tuple, ↓isT_z_tuple, ↓isT_n_str, ↓isT_b_str, ↓isT_i_str, ↓isT_s_str, ↓isT_t_str, ↓isT_l_str, ↓isT_z_str, ↓isT_n_bool, ↓isT_b_bool, ↓isT_i_bool, ↓isT_s_bool, ↓isT_t_bool, ↓isT_l_bool, ↓isT_z_bool, ↓isT_n_int, ↓isT_b_int, ↓isT_i_int, ↓isT_s_int, ↓isT_t_int, ↓isT_l_int, ↓isT_z_int, ↓isn_n, ↓isn_b, ↓isn_i, ↓isn_s, ↓isn_t, ↓isn_l, ↓isn_z, ↓wO_add, ↓wO_addL, ↓wO_addT, ↓wO_sub, ↓wO_neg, ↓wO_mul, ↓wO_mulL, ↓wO_mod, ↓wO_div, ↓wO_pow, ↓wO_lt, ↓wO_le, ↓wO_gt, ↓wO_ge, ↓wO_eqI, ↓wO_neI, ↓wO_eqB, ↓wO_neB, ↓wO_eqS, ↓wO_neS, ↓wO_ixL, ↓wO_ixT, ↓wO_ixZ, ↓wO_lst, ↓wO_tup, ↓wO_lenL, ↓wO_lenT, ↓wO_lenZ, ↓wO_listL, ↓wO_listT, ↓wO_listZ, ↓wO_tupL, ↓wO_tupT, ↓wO_abs, ↓wO_max2, ↓wO_min2, ↓wO_intI, ↓wO_intB, ↓wO_sum, ↓wO_all, ↓wO_any, ↓isP_n, ↓isP_b, ↓isP_i, ↓isP_s, ↓isP_t, ↓isP_l, ↓isP_z, ↓wO_isi, ↓wO_isN, ↓wO_notN, ↓wO_revL, ↓wL_rng1, ↓wL_rng2, ↓wL_seqL, ↓wL_seqT, ↓wL_seqZ, ↓wL_enumL, ↓wL_zipL, ↓wL_zipT, ↓wO_apT, ↓wO_apA, ↓wO_stT, ↓wE_Sl, ↓wO_slL, ↓wO_slZ, ↓wO_slT, ↓wO_max1, ↓wO_min1, ↓wO_max1T, ↓wO_min1T, ↓wAt_last, ↓wE_LstO, ↓wEx_l, ↓wS_ext, ↓wPo_t, ↓wE_pop, ↓wP0_t, ↓wE_pop0, ↓wKs_n, ↓wKs_c, ↓wAj_0, ↓wAj_1, ↓wAj_2, ↓wUp_n, ↓wUp_c, ↓wC2_i, ↓wC1_1, ↓wE_Ch, ↓zfl_c, ↓zfl_lt, ↓zfl_a, ↓wO_mulT, ↓wL_enumT, ↓wO_eqN, ↓flat_pr1, ↓wM_hs, ↓wM_pr, ↓wE_Lc2, ↓wO_notB, ↓wO_isB, ↓okE_0, ↓okE_s, ↓ownE_0, ↓ownE_s, ↓flS_n, ↓flS_s, ↓allS_n, ↓allS_s, ↓wE_MtV, ↓wE_MtE, ↓isLd_l, ↓wZ_pr, ↓wZ_hs, ↓wE_Me, ↓wTl_c, ↓wFn_fnMk, ↓wR_nil, ↓wR_fld, ↓wR_st, ↓wS_forH, ↓wO_divmod, ↓wO_lrg, ↓nobL_i, ↓nobL_rm, ↓nobL_lm, ↓nob_t, ↓nob_l, ↓nob_z, ↓nob_i, ↓nob_b, ↓nob_s, ↓nob_n, ↓nobL_0, ↓nobL_c, ↓nobE_n, ↓nobE_c, ↓nobE_0, ↓con_0, wO_some, wO_none, wL_some, wL_none, wG_some, wK_some, wK_none, setK_0, setK_s, wB_t, wB_f, wG_0, wG_s, isC_0, isC_1, isC_2, isC_s, allC_n, allC_d, allC_v, frzK_n, frzK_d, frzK_c, frzK_w, wX_0, wX_s, wZ_c, wZ_i, wZ_b, wZ_u, wZ_n, wZ_l, wZ_t, wM_c, wM_i, wM_b, wM_u, wM_n, wM_a, wM_lc, wM_lt, wM_tc, wLk_n, wLk_d, wLk_v, wA_nil, wA_e, wA_v, wE_K, wE_V, wE_P, wE_C, wE_CK, wE_CI, wE_CM, wE_If, wE_And, wE_Or, wE_Not, wE_Lc, wP_none, wP_some, wT_Te, wT_Not, wT_And, wT_Or, wT_Yes, wI_S, wS_nx, wS_bk, wS_ct, wS_no, wS_asg, wS_expr, wS_ret, wS_retV, wS_retN, wS_if, wLen_0, wLen_s, wK_tgV, wK_tgI, wK_tgT, wK_tgTl, wK_tgTz, wK_tgs0, wK_tgs, isL_0, isL_s, wS_app, wH_nil, wH_cons, wS_par, wK_put0, wK_put, wS_aug, wFn_mk, wFn_mkI, wAt_0, wSt_0, wAt_1, wSt_1, wAt_2, wSt_2, wAt_3, wSt_3, wAt_4, wSt_4, wAt_5, wSt_5, wAt_6, wSt_6, wAt_7, wSt_7, isT_n_list, isT_b_list, isT_i_list, isT_s_list, isT_t_list, isT_l_list, isT_z_list, isT_n_tuple, isT_b_tuple, isT_i_tuple, isT_s_tuple, isT_t_tuple, isT_l_tuple, isT_z_tuple, isT_n_str, isT_b_str, isT_i_str, isT_s_str, isT_t_str, isT_l_str, isT_z_str, isT_n_bool, isT_b_bool, isT_i_bool, isT_s_bool, isT_t_bool, isT_l_bool, isT_z_bool, isT_n_int, isT_b_int, isT_i_int, isT_s_int, isT_t_int, isT_l_int, isT_z_int, isn_n, isn_b, isn_i, isn_s, isn_t, isn_l, isn_z, wO_add, wO_addL, wO_addT, wO_sub, wO_neg, wO_mul, wO_mulL, wO_mod, wO_div, wO_pow, wO_lt, wO_le, wO_gt, wO_ge, wO_eqI, wO_neI, wO_eqB, wO_neB, wO_eqS, wO_neS, wO_ixL, wO_ixT, wO_ixZ, wO_lst, wO_tup, wO_lenL, wO_lenT, wO_lenZ, wO_listL, wO_listT, wO_listZ, wO_tupL, wO_tupT, wO_abs, wO_max2, wO_min2, wO_intI, wO_intB, wO_sum, wO_all, wO_any, isP_n, isP_b, isP_i, isP_s, isP_t, isP_l, isP_z, wO_isi, wO_isN, wO_notN, wO_revL, wL_rng1, wL_rng2, wL_seqL, wL_seqT, wL_seqZ, wL_enumL, wL_zipL, wL_zipT, wO_apT, wO_apA, wO_stT, wE_Sl, wO_slL, wO_slZ, wO_slT, wO_max1, wO_min1, wO_max1T, wO_min1T, wAt_last, wE_LstO, wEx_l, wS_ext, wPo_t, wE_pop, wP0_t, wE_pop0, wKs_n, wKs_c, wAj_0, wAj_1, wAj_2, wUp_n, wUp_c, wC2_i, wC1_1, wE_Ch, zfl_c, zfl_lt, zfl_a, wO_mulT, wL_enumT, wO_eqN, flat_pr1, wM_hs, wM_pr, wE_Lc2, wO_notB, wO_isB, okE_0, okE_s, ownE_0, ownE_s, flS_n, flS_s, allS_n, allS_s, wE_MtV, wE_MtE, isLd_l, wZ_pr, wZ_hs, wE_Me, wTl_c, wFn_fnMk, wR_nil, wR_fld, wR_st, wS_forH, wO_divmod, wO_lrg, nobL_i, nobL_rm, nobL_lm, nob_t, nob_l, nob_z, nob_i, nob_b, nob_s, nob_n, nobL_0, nobL_c, nobE_n, nobE_c, nobE_0, con_0, LIM, Int.natCast_one, Int.natCast_zero, castN, castM, cMulL, cMulR, cMul_01, Int.reduceLE, Int.reduceLT, logB, natB, Int.reduceToNat, Int.reducePow, Nat.reducePow, Int.reduceNeg, Int.reduceMul, Int.reduceSub, Int.reduceAdd, Nat.reduceMul, Int.reduceEq, Int.reduceMod, Int.reduceDiv, Nat.zero_le, Nat.le_refl, cold, flat_i, flat_b, flat_rm, flat_pr, flat_hs,  not_true_eq_false, not_false_eq_true, false_implies, implies_true, Bool.true_eq_false, false_and, and_false, wipeE, rsE, List.set_cons_zero, List.set_cons_succ, List.any_cons, List.any_nil, Bool.or_false, Bool.or_true, Bool.true_or, pick, List.getD_cons_zero, List.getD_cons_succ, decide_true, decide_false, eq_self, List.length_append, List.replicate, List.length_cons, List.length_nil, List.length_map, List.map_cons, List.map_nil, List.cons_append, List.nil_append, List.getElem?_cons_zero, List.getElem?_cons_succ, List.getElem?_nil, List.tail_cons, Bool.and_true, Bool.true_and, Bool.and_self, Bool.false_and, Bool.and_false, Bool.true_or, Bool.or_true, Bool.false_or, if_true, if_false, ite_true, ite_false, reduceIte, Bool.false_eq_true, Nat.reduceAdd, Nat.reduceSub, Nat.reduceLT, Nat.reduceLeDiff, true_and, and_true, true_implies, decide_eq_true_eq, decide_eq_false_iff_not, Bool.not_eq_true', Bool.not_eq_false', Nat.zero_add, Nat.sub_self, Nat.sub_zero, Nat.lt_add_one, Nat.zero_lt_succ, reduceCtorEq, Dt.flat, flatL, Bool.not_true, Bool.not_false, $xs,*])
  | `(tactic| simp_arith [$xs,*] at $h:ident) => `(tactic| try simp only [↓wO_some, ↓wO_none, ↓wL_some, ↓wL_none, ↓wG_some, ↓wK_some, ↓wK_none, ↓setK_0, ↓setK_s, ↓wB_t, ↓wB_f, ↓wG_0, ↓wG_s, ↓isC_0, ↓isC_1, ↓isC_2, ↓isC_s, ↓allC_n, ↓allC_d, ↓allC_v, ↓frzK_n, ↓frzK_d, ↓frzK_c, ↓frzK_w, ↓wX_0, ↓wX_s, ↓wZ_c, ↓wZ_i, ↓wZ_b, ↓wZ_u, ↓wZ_n, ↓wZ_l, ↓wZ_t, ↓wM_c, ↓wM_i, ↓wM_b, ↓wM_u, ↓wM_n, ↓wM_a, ↓wM_lc, ↓wM_lt, ↓wM_tc, ↓wLk_n, ↓wLk_d, ↓wLk_v, ↓wA_nil, ↓wA_e, ↓wA_v, ↓wE_K, ↓wE_V, ↓wE_P, ↓wE_C, ↓wE_CK, ↓wE_CI, ↓wE_CM, ↓wE_If, ↓wE_And, ↓wE_Or, ↓wE_Not, ↓wE_Lc, ↓wP_none, ↓wP_some, ↓wT_Te, ↓wT_Not, ↓wT_And, ↓wT_Or, ↓wT_Yes, ↓wI_S, ↓wS_nx, ↓wS_bk, ↓wS_ct, ↓wS_no, ↓wS_asg, ↓wS_expr, ↓wS_ret, ↓wS_retV, ↓wS_retN, ↓wS_if, ↓wLen_0, ↓wLen_s, ↓wK_tgV, ↓wK_tgI, ↓wK_tgT, ↓wK_tgTl, ↓wK_tgTz, ↓wK_tgs0, ↓wK_tgs, ↓isL_0, ↓isL_s, ↓wS_app, ↓wH_nil, ↓wH_cons, ↓wS_par, ↓wK_put0, ↓wK_put, ↓wS_aug, ↓wFn_mk, ↓wFn_mkI, ↓wAt_0, ↓wSt_0, ↓wAt_1, ↓wSt_1, ↓wAt_2, ↓wSt_2, ↓wAt_3, ↓wSt_3, ↓wAt_4, ↓wSt_4, ↓wAt_5, ↓wSt_5, ↓wAt_6, ↓wSt_6, ↓wAt_7, ↓wSt_7, ↓isT_n_list, ↓isT_b_list, ↓isT_i_list, ↓isT_s_list, ↓isT_t_list, ↓isT_l_list, ↓isT_z_list, ↓isT_n_tuple, ↓isT_b_tuple, ↓isT_i_tuple, ↓isT_s_tuple, ↓isT_t_tuple, ↓isT_l_tuple, ↓isT_z_tuple, ↓isT_n_str, ↓isT_b_str, ↓isT_i_str, ↓isT_s_str, ↓isT_t_str, ↓isT_l_str, ↓isT_z_str, ↓isT_n_bool, ↓isT_b_bool, ↓isT_i_bool, ↓isT_s_bool, ↓isT_t_bool, ↓isT_l_bool, ↓isT_z_bool, ↓isT_n_int, ↓isT_b_int, ↓isT_i_int, ↓isT_s_int, ↓isT_t_int, ↓isT_l_int, ↓isT_z_int, ↓isn_n, ↓isn_b, ↓isn_i, ↓isn_s, ↓isn_t, ↓isn_l, ↓isn_z, ↓wO_add, ↓wO_addL, ↓wO_addT, ↓wO_sub, ↓wO_neg, ↓wO_mul, ↓wO_mulL, ↓wO_mod, ↓wO_div, ↓wO_pow, ↓wO_lt, ↓wO_le, ↓wO_gt, ↓wO_ge, ↓wO_eqI, ↓wO_neI, ↓wO_eqB, ↓wO_neB, ↓wO_eqS, ↓wO_neS, ↓wO_ixL, ↓wO_ixT, ↓wO_ixZ, ↓wO_lst, ↓wO_tup, ↓wO_lenL, ↓wO_lenT, ↓wO_lenZ, ↓wO_listL, ↓wO_listT, ↓wO_listZ, ↓wO_tupL, ↓wO_tupT, ↓wO_abs, ↓wO_max2, ↓wO_min2, ↓wO_intI, ↓wO_intB, ↓wO_sum, ↓wO_all, ↓wO_any, ↓isP_n, ↓isP_b, ↓isP_i, ↓isP_s, ↓isP_t, ↓isP_l, ↓isP_z, ↓wO_isi, ↓wO_isN, ↓wO_notN, ↓wO_revL, ↓wL_rng1, ↓wL_rng2, ↓wL_seqL, ↓wL_seqT, ↓wL_seqZ, ↓wL_enumL, ↓wL_zipL, ↓wL_zipT, ↓wO_apT, ↓wO_apA, ↓wO_stT, ↓wE_Sl, ↓wO_slL, ↓wO_slZ, ↓wO_slT, ↓wO_max1, ↓wO_min1, ↓wO_max1T, ↓wO_min1T, ↓wAt_last, ↓wE_LstO, ↓wEx_l, ↓wS_ext, ↓wPo_t, ↓wE_pop, ↓wP0_t, ↓wE_pop0, ↓wKs_n, ↓wKs_c, ↓wAj_0, ↓wAj_1, ↓wAj_2, ↓wUp_n, ↓wUp_c, ↓wC2_i, ↓wC1_1, ↓wE_Ch, ↓zfl_c, ↓zfl_lt, ↓zfl_a, ↓wO_mulT, ↓wL_enumT, ↓wO_eqN, ↓flat_pr1, ↓wM_hs, ↓wM_pr, ↓wE_Lc2, ↓wO_notB, ↓wO_isB, ↓okE_0, ↓okE_s, ↓ownE_0, ↓ownE_s, ↓flS_n, ↓flS_s, ↓allS_n, ↓allS_s, ↓wE_MtV, ↓wE_MtE, ↓isLd_l, ↓wZ_pr, ↓wZ_hs, ↓wE_Me, ↓wTl_c, ↓wFn_fnMk, ↓wR_nil, ↓wR_fld, ↓wR_st, ↓wS_forH, ↓wO_divmod, ↓wO_lrg, ↓nobL_i, ↓nobL_rm, ↓nobL_lm, ↓nob_t, ↓nob_l, ↓nob_z, ↓nob_i, ↓nob_b, ↓nob_s, ↓nob_n, ↓nobL_0, ↓nobL_c, ↓nobE_n, ↓nobE_c, ↓nobE_0, ↓con_0, wO_some, wO_none, wL_some, wL_none, wG_some, wK_some, wK_none, setK_0, setK_s, wB_t, wB_f, wG_0, wG_s, isC_0, isC_1, isC_2, isC_s, allC_n, allC_d, allC_v, frzK_n, frzK_d, frzK_c, frzK_w, wX_0, wX_s, wZ_c, wZ_i, wZ_b, wZ_u, wZ_n, wZ_l, wZ_t, wM_c, wM_i, wM_b, wM_u, wM_n, wM_a, wM_lc, wM_lt, wM_tc, wLk_n, wLk_d, wLk_v, wA_nil, wA_e, wA_v, wE_K, wE_V, wE_P, wE_C, wE_CK, wE_CI, wE_CM, wE_If, wE_And, wE_Or, wE_Not, wE_Lc, wP_none, wP_some, wT_Te, wT_Not, wT_And, wT_Or, wT_Yes, wI_S, wS_nx, wS_bk, wS_ct, wS_no, wS_asg, wS_expr, wS_ret, wS_retV, wS_retN, wS_if, wLen_0, wLen_s, wK_tgV, wK_tgI, wK_tgT, wK_tgTl, wK_tgTz, wK_tgs0, wK_tgs, isL_0, isL_s, wS_app, wH_nil, wH_cons, wS_par, wK_put0, wK_put, wS_aug, wFn_mk, wFn_mkI, wAt_0, wSt_0, wAt_1, wSt_1, wAt_2, wSt_2, wAt_3, wSt_3, wAt_4, wSt_4, wAt_5, wSt_5, wAt_6, wSt_6, wAt_7, wSt_7, isT_n_list, isT_b_list, isT_i_list, isT_s_list, isT_t_list, isT_l_list, isT_z_list, isT_n_tuple, isT_b_tuple, isT_i_tuple, isT_s_tuple, isT_t_tuple, isT_l_tuple, isT_z_tuple, isT_n_str, isT_b_str, isT_i_str, isT_s_str, isT_t_str, isT_l_str, isT_z_str, isT_n_bool, isT_b_bool, isT_i_bool, isT_s_bool, isT_t_bool, isT_l_bool, isT_z_bool, isT_n_int, isT_b_int, isT_i_int, isT_s_int, isT_t_int, isT_l_int, isT_z_int, isn_n, isn_b, isn_i, isn_s, isn_t, isn_l, isn_z, wO_add, wO_addL, wO_addT, wO_sub, wO_neg, wO_mul, wO_mulL, wO_mod, wO_div, wO_pow, wO_lt, wO_le, wO_gt, wO_ge, wO_eqI, wO_neI, wO_eqB, wO_neB, wO_eqS, wO_neS, wO_ixL, wO_ixT, wO_ixZ, wO_lst, wO_tup, wO_lenL, wO_lenT, wO_lenZ, wO_listL, wO_listT, wO_listZ, wO_tupL, wO_tupT, wO_abs, wO_max2, wO_min2, wO_intI, wO_intB, wO_sum, wO_all, wO_any, isP_n, isP_b, isP_i, isP_s, isP_t, isP_l, isP_z, wO_isi, wO_isN, wO_notN, wO_revL, wL_rng1, wL_rng2, wL_seqL, wL_seqT, wL_seqZ, wL_enumL, wL_zipL, wL_zipT, wO_apT, wO_apA, wO_stT, wE_Sl, wO_slL, wO_slZ, wO_slT, wO_max1, wO_min1, wO_max1T, wO_min1T, wAt_last, wE_LstO, wEx_l, wS_ext, wPo_t, wE_pop, wP0_t, wE_pop0, wKs_n, wKs_c, wAj_0, wAj_1, wAj_2, wUp_n, wUp_c, wC2_i, wC1_1, wE_Ch, zfl_c, zfl_lt, zfl_a, wO_mulT, wL_enumT, wO_eqN, flat_pr1, wM_hs, wM_pr, wE_Lc2, wO_notB, wO_isB, okE_0, okE_s, ownE_0, ownE_s, flS_n, flS_s, allS_n, allS_s, wE_MtV, wE_MtE, isLd_l, wZ_pr, wZ_hs, wE_Me, wTl_c, wFn_fnMk, wR_nil, wR_fld, wR_st, wS_forH, wO_divmod, wO_lrg, nobL_i, nobL_rm, nobL_lm, nob_t, nob_l, nob_z, nob_i, nob_b, nob_s, nob_n, nobL_0, nobL_c, nobE_n, nobE_c, nobE_0, con_0, LIM, Int.natCast_one, Int.natCast_zero, castN, castM, cMulL, cMulR, cMul_01, Int.reduceLE, Int.reduceLT, logB, natB, Int.reduceToNat, Int.reducePow, Nat.reducePow, Int.reduceNeg, Int.reduceMul, Int.reduceSub, Int.reduceAdd, Nat.reduceMul, Int.reduceEq, Int.reduceMod, Int.reduceDiv, Nat.zero_le, Nat.le_refl, cold, flat_i, flat_b, flat_rm, flat_pr, flat_hs,  not_true_eq_false, not_false_eq_true, false_implies, implies_true, Bool.true_eq_false, false_and, and_false, wipeE, rsE, List.set_cons_zero, List.set_cons_succ, List.any_cons, List.any_nil, Bool.or_false, Bool.or_true, Bool.true_or, pick, List.getD_cons_zero, List.getD_cons_succ, decide_true, decide_false, eq_self, List.length_append, List.replicate, List.length_cons, List.length_nil, List.length_map, List.map_cons, List.map_nil, List.cons_append, List.nil_append, List.getElem?_cons_zero, List.getElem?_cons_succ, List.getElem?_nil, List.tail_cons, Bool.and_true, Bool.true_and, Bool.and_self, Bool.false_and, Bool.and_false, Bool.true_or, Bool.or_true, Bool.false_or, if_true, if_false, ite_true, ite_false, reduceIte, Bool.false_eq_true, Nat.reduceAdd, Nat.reduceSub, Nat.reduceLT, Nat.reduceLeDiff, true_and, and_true, true_implies, decide_eq_true_eq, decide_eq_false_iff_not, Bool.not_eq_true', Bool.not_eq_false', Nat.zero_add, Nat.sub_self, Nat.sub_zero, Nat.lt_add_one, Nat.zero_lt_succ, reduceCtorEq, Dt.flat, flatL, Bool.not_true, Bool.not_false, $xs,*] at $h:ident)
local macro_rules
  | `(tactic| simp_arith! [$xs,*]) => `(tactic| ((try rw [wS_seq]); simp_arith [$xs,*]))
/-- a tape: three numbers; n draws are left -/
def Tp (n : Nat) (t : Dt) : Prop := ∃ a b c : Int, t = .l [.i a, .i b, .i c] ∧ 0 ≤ b ∧ b < 2 ^ 62 ∧ 0 ≤ c ∧ c + n ≤ 2 ^ 30
theorem Tp.zfl {n : Nat} {t : Dt} (h : Tp n t) : Y.zfl (t, .t) = true := by
  obtain ⟨a, b, c, rfl, _⟩ := h
  rfl
theorem Tp.less {n m : Nat} {t : Dt} (h : Tp n t) (q : m ≤ n) : Tp m t := by
  obtain ⟨a, b, c, rfl, h1, h2, h3, h4⟩ := h
  exact ⟨a, b, c, rfl, h1, h2, h3, by omega⟩
/-- come to: the document's words -/
def comeB (here there : List Int) (m : Int) : Bool :=
  if there = [] ∨ m = 0 then decide (there = [] ∧ m = 0)
  else if m ∈ there then decide (m = lmax (there.headD 0) there.tail) || here.any (fun w => decide (w < m))
  else decide (m ∈ here) && decide (m < lmax (there.headD 0) there.tail)
def cot (here there : List Int) (m : Int) : Dt := .t [.t [.t (here.map .i), .t (there.map .i)], .t [.i m]]
def cotL (here there : List Int) (m : Int) : Dt := .l [.l [.l (here.map .i), .l (there.map .i)], .l [.i m]]
theorem any_lt {here : List Int} {m : Int} : here.any (fun w => decide (w < m)) = (here.map fun w => decide (w < m)).any id := by simp [List.any_map]
theorem lt_map {here : List Int} {m : Int} (G : Dt → Dt) (h : ∀ w, G (.i w) = .b (decide (w < m))) : (here.map Dt.i).map G = (here.map fun w => decide (w < m)).map Dt.b := by simp [List.map_map, h]
def ltG (m : Int) : Dt → Dt
  | .i w => .b (decide (w < m))
  | _ => .n

theorem folded_ok {ns : List Int} {u : Nat} (h : ns.length ≤ 63) (hu0 : 0 < u) (hu : u ≤ 63) {Q : Vl → Vl → Prop} (q : ∀ cs : List Int, cs.length = min u ns.length → Q (.l (cs.map .i), .t) (.n, .c)) : wFn fn__law_folded [(.z (ns.map .i), .c), (.i u, .c)] Q := by
  simp_arith [↓wS_seq, wS_seq, fn__law_folded, m__law_folded]
  rw [cutD_hi (by omega)]
  refine wS_for' ?_
  simp_arith [↓wS_seq, wS_seq]
  rw [cutD_lh (by omega) (by omega)]
  refine ⟨fun k r => ∃ (cs : List Int) (o o' : Option Vl), cs.length = min u ns.length ∧ r = [some (.z (ns.map .i), .c), some (.i u, .c), some (.l (cs.map .i), .t), o, o'], ⟨ns.take u, none, none, by simp, by simp [List.map_take]⟩, ?_, ?_⟩
  · rintro k z _ hz ⟨cs, o, o', hl, rfl⟩
    obtain ⟨d, hd, rfl⟩ := enumD_mem hz
    have hk := (List.getElem?_eq_some_iff.mp hd).1
    simp only [List.length_take, List.length_drop, List.length_map] at hk
    have hlen : cs.length = u := by omega
    rw [← List.map_drop, ← List.map_take, List.getElem?_map, Option.map_eq_some_iff] at hd
    obtain ⟨c, _, rfl⟩ := hd
    have m0 : 0 ≤ (k : Int) % (u : Int) := Int.emod_nonneg _ (by omega)
    have m1 : (k : Int) % (u : Int) < u := Int.emod_lt_of_pos _ (by omega)
    simp_arith [↓wS_seq, wS_seq]
    refine ⟨by omega, wAt_i m0 (by omega) fun c1 _ => ?_⟩
    simp_arith [↓wS_seq, wS_seq]
    refine ⟨cMul_r (by omega) (by omega), by omega, wSt_i m0 (by omega) ?_⟩
    exact ⟨_, _, _, by simpa using hl, rfl⟩
  · rintro _ ⟨cs, o, o', hl, rfl⟩
    simp_arith [↓wS_seq, wS_seq]
    exact q cs hl

theorem draw_ok {n : Nat} {t : Dt} {u : Int} {m : Md} (h : Tp (n + 1) t) (h0 : 0 < u) (h1 : u < 2 ^ 60) {Q : Vl → Vl → Prop} (q : ∀ k t', 0 ≤ k → k < u → Tp n t' → Q (.i k, .c) (t', .t)) : wFn fn__law_draw [(t, .t), (.i u, m)] Q := by
  obtain ⟨a, b, c, rfl, hb0, hb1, hc0, hc1⟩ := h
  simp_arith [↓wS_seq, wS_seq, fn__law_draw, m__law_draw]
  refine ⟨fun h => ⟨h0, ⟨h0, log_ok h0 (by omega)⟩, q _ _ (Int.emod_nonneg _ (by omega)) (Int.emod_lt_of_pos _ h0) ⟨_, _, _, rfl, hb0, hb1, hc0, by omega⟩⟩, fun h => ?_⟩
  have e1 : 0 ≤ (b + 39373 * (c + 1)) ^ 5 % 2147483647 := Int.emod_nonneg _ (by decide)
  have e2 : (b + 39373 * (c + 1)) ^ 5 % 2147483647 < 2147483647 := Int.emod_lt_of_pos _ (by decide)
  generalize (b + 39373 * (c + 1)) ^ 5 % 2147483647 = o at e1 e2 ⊢
  have f1 : 0 ≤ (o + (c + 1)) * (o % 40009 + 7 + (c + 1)) % 2147483629 := Int.emod_nonneg _ (by decide)
  have f2 : (o + (c + 1)) * (o % 40009 + 7 + (c + 1)) % 2147483629 < 2147483629 := Int.emod_lt_of_pos _ (by decide)
  generalize (o + (c + 1)) * (o % 40009 + 7 + (c + 1)) % 2147483629 = w at f1 f2 ⊢
  exact ⟨by omega, cMul_l (by omega) (by omega), h0,
    q _ _ (Int.emod_nonneg _ (by omega)) (Int.emod_lt_of_pos _ h0) ⟨_, _, _, rfl, hb0, hb1, by omega, by omega⟩⟩

theorem part_ok {F : List Int} {n : Nat} {t : Dt} (ht : Tp (n + F.length) t) (hl : F.length ≤ 60) {Q : Vl → Vl → Prop} (q : ∀ (ws : List Int) t', ws.Perm F → Tp n t' → Q (.l (ws.map .i), .t) (t', .t)) : wFn fn__law_part [(t, .t), (.l (F.map .i), .c), (.i F.length, .c)] Q := by
  have lim : LIM = 1000000 := rfl
  simp_arith [fn__law_part, m__law_part]
  simp_arith! [true_and]
  refine ⟨⟨by omega, by omega⟩, by rw [rngD_len]; omega, ?_⟩
  refine lc_inv (P := fun k r acc => ∃ (t : Dt) (L ys : List Int), r = [some (t, .t), some (.l (F.map .i), .c), some (.i F.length, .c), some (.l (L.map .i), .t), none] ∧ acc = ys.map .i ∧ (ys ++ L).Perm F ∧ ys.length = k ∧ k ≤ F.length ∧ Tp (n + (F.length - k)) t) ⟨t, F, [], rfl, rfl, by simp, rfl, by omega, ht⟩ ?_ ?_
  · rintro k x _ _ hx ⟨t, L, ys, rfl, rfl, hp, hy, hk, ht⟩
    obtain ⟨rfl, hk2⟩ := rngD_at hx
    have hk3 : k < F.length := by omega
    have hlL : L.length = F.length - k := by have := hp.length_eq; rw [List.length_append] at this; omega
    simp_arith [true_and]
    refine draw_ok (n := n + (F.length - (k + 1))) (ht.less (by omega)) (by omega) (by omega) fun a t1 a0 a1 ht => ?_
    simp_arith [ht.zfl]
    have hj : a.toNat < L.length := by omega
    have e0 : seqIndex? a L.length = some a.toNat := by
      simp only [seqIndex?, if_neg (show ¬ a < 0 by omega), decide_eq_true a0, decide_eq_true (show a < (L.length : Int) by omega), Bool.and_self, if_true]
    refine ⟨by omega, a.toNat, .i L[a.toNat], e0, by rw [List.getElem?_map, List.getElem?_eq_getElem hj]; rfl, t1, L.eraseIdx a.toNat, ys ++ [L[a.toNat]], by rw [erase_map], by simp, ?_, by rw [List.length_append, hy]; rfl, by omega, ht⟩
    have hp2 := erase_perm hj
    rw [List.append_assoc]
    exact (List.Perm.append_left ys hp2).trans hp
  · rintro ys _ ⟨t, L, ws, rfl, rfl, hp, hy, hk, ht⟩
    rw [rngD_len] at hy ht
    have hL : L = [] := by
      have := hp.length_eq
      rw [List.length_append] at this
      exact List.eq_nil_of_length_eq_zero (by omega)
    subst hL
    rw [List.append_nil] at hp
    simp_arith [true_and]
    exact q ws t hp (ht.less (by omega))

theorem same_ok : ∀ (d : Nat) (x : Dt), pl d x = true → ∀ {Q : Vl → Vl → Prop}, Q (.b true, .c) (.n, .c) → wFn (fn__law_same d) [(x, .c), (x, .c)] Q
  | 0, x, h, _, _ => by simp [pl] at h
  | d + 1, x, h, Q, q => by
    have go : ∀ xs : List Dt, (∀ a ∈ xs, pl d a = true) → ∀ r0 : Ev, r0 = [r0.getD 0 none, r0.getD 1 none, none, none] → lcL [2, 3] (tgT [tgV 2, tgV 3]) mYes (mC (fn__law_same d) [.v 2, .v 3]) false (zipD xs xs) r0 [] = .ok ([] ++ (zipD xs xs).map fun _ => .b true) r0 := by
      intro xs hx r0 hr
      generalize r0.getD 0 none = o0 at hr
      generalize r0.getD 1 none = o1 at hr
      subst hr
      refine lc_map (fun _ => .b true) _ _ fun z hz => ?_
      obtain ⟨a, ha, rfl⟩ := zipD_same xs z hz
      simp_arith [↓wS_seq, wS_seq]
      refine same_ok d a (hx a ha) ?_
      simp_arith [↓wS_seq, wS_seq]
    cases x with
    | n => simp_arith [↓wS_seq, wS_seq, fn__law_same_s, m__law_same]; exact q
    | b p => simp_arith [↓wS_seq, wS_seq, fn__law_same_s, m__law_same]; exact q
    | i a => simp_arith [↓wS_seq, wS_seq, fn__law_same_s, m__law_same]; exact q
    | s z =>
      have h : PyData.strOk z = true := h
      simp_arith [↓wS_seq, wS_seq, fn__law_same_s, m__law_same, h]
      exact q
    | t xs =>
      simp only [pl, Bool.and_eq_true, List.all_eq_true, decide_eq_true_eq] at h
      simp_arith [↓wS_seq, wS_seq, fn__law_same_s, m__law_same]
      have hL : LIM = 1000000 := rfl
      refine ⟨by rw [zipD_len]; omega, _, _, go xs h.2 _ rfl, ?_⟩
      simp_arith [↓wS_seq, wS_seq, List.nil_append, map_true, all_true]
      exact q
    | l xs =>
      simp only [pl, Bool.and_eq_true, List.all_eq_true, decide_eq_true_eq] at h
      simp_arith [↓wS_seq, wS_seq, fn__law_same_s, m__law_same]
      have hL : LIM = 1000000 := rfl
      refine ⟨by rw [zipD_len]; omega, _, _, go xs h.2 _ rfl, ?_⟩
      simp_arith [↓wS_seq, wS_seq, List.nil_append, map_true, all_true]
      exact q
    | _ => simp [pl] at h

theorem weights_ok {n u : Nat} {t : Dt} (h : Tp (n + u + 3) t) (hu : u ≤ 500) {Q : Vl → Vl → Prop} (q : ∀ (ws : List Int) t', ws.length = u → (∀ w ∈ ws, 1 ≤ w ∧ w < 2 ^ 62) → ws.Pairwise (· < ·) → Tp n t' → Q (.l (ws.map .i), .t) (t', .t)) : wFn fn__law_weights [(t, .t), (.i u, .c)] Q := by
  simp_arith [fn__law_weights, m__law_weights]
  simp_arith! [true_and]
  refine draw_ok (n := n + u + 2) h (by omega) (by omega) fun k1 t1 a1 b1 h1 => ?_
  simp_arith [h1.zfl]
  refine wAt_I (ns := [1, 1, 3, 1000, 1000000000]) (P := fun s => 1 ≤ s ∧ s ≤ 1000000000) a1 b1 (by simp) fun s hs => ?_
  simp_arith [true_and]
  simp_arith! [true_and]
  refine draw_ok (n := n + u + 1) h1 (by omega) (by omega) fun k2 t2 a2 b2 h2 => ?_
  simp_arith [h2.zfl]
  refine draw_ok (n := n + u) h2 (by omega) (by omega) fun k3 t3 a3 b3 h3 => ?_
  simp_arith [h3.zfl]
  refine wAt_I (ns := [0, 0, k2, 1000000000000 - 42 * s]) (P := fun s => 0 ≤ s ∧ s ≤ 2 ^ 50) a3 b3 (by simp; omega) fun at0 hat => ?_
  simp_arith [true_and]
  rw [wS_seq]
  refine wS_for' ?_
  simp_arith [true_and]
  refine ⟨by omega, fun k r => ∃ (t : Dt) (ws : List Int) (at1 : Int) (o : Option Vl), r = [some (t, .t), some (.i u, .c), some (.i s, .c), some (.l (ws.map .i), .t), some (.i at1, .c), o] ∧ ws.length = k ∧ k ≤ u ∧ (∀ w ∈ ws, 1 ≤ w ∧ w ≤ at1) ∧ ws.Pairwise (· < ·) ∧ 0 ≤ at1 ∧ at1 ≤ 2 ^ 50 + k * 2 ^ 40 ∧ Tp (n + (u - k)) t, ⟨t3, [], at0, none, rfl, rfl, Nat.zero_le _, by simp, by simp, hat.1, by omega, h3⟩, ?_, ?_⟩
  · rintro k x _ hx ⟨t, ws, at1, o, rfl, hl, hk, hw, hp, h4, h5, ht⟩
    obtain ⟨rfl, hk2⟩ := rngD_at hx
    have hk3 : k < u := by omega
    simp_arith [true_and]
    simp_arith! [true_and]
    refine draw_ok (n := n + (u - (k + 1))) (ht.less (by omega)) (by omega) (by omega) fun k4 t4 a4 b4 h6 => ?_
    simp_arith [h6.zfl]
    refine ⟨by omega, t4, ws ++ [at1 + 1 + k4], at1 + 1 + k4, _, by rw [List.map_append]; rfl, by simp [hl], by omega, ?_, ?_, by omega, by omega, h6⟩
    · intro w hw2
      rcases List.mem_append.mp hw2 with hw2 | hw2
      · have := hw w hw2; omega
      · rw [List.mem_singleton.mp hw2]; omega
    · refine List.pairwise_append.mpr ⟨hp, by simp, fun a ha b hb => ?_⟩
      rw [List.mem_singleton.mp hb]
      have := hw a ha; omega
  · rintro _ ⟨t, ws, at1, o, rfl, hl, hk, hw, hp, h4, h5, ht⟩
    rw [rngD_len] at hl h5 ht
    simp_arith [true_and]
    exact q ws t (by omega) (fun w hw2 => by have := hw w hw2; omega) hp (ht.less (by omega))

theorem parts_ok {F : List Int} (hl : F.length ≤ 60) {Q : Vl → Vl → Prop} (q : Q (.t [.l ((F.take (hfN F)).reverse.map .i), .l (((F.drop (hfN F)).take (spN F)).map .i), .l ((F.drop (hfN F + spN F)).map .i)], .c) (.n, .c)) : wFn fn__law_parts [(.l (F.map .i), .c)] Q := by
  have lim : LIM = 1000000 := rfl
  have hlen := hf_len F
  have e2 : ((F.length : Int)) / 2 = (hfN F : Int) := by simp only [hfN]; omega
  simp_arith [fn__law_parts, m__law_parts]
  simp_arith! [true_and]
  rw [e2]
  simp_arith [true_and]
  rw [cutD_hi (by omega), cutD_lh (by omega) (by omega), cutD_lo (by omega), Int.toNat_natCast, show ((F.length : Int) - hfN F).toNat = hfN F + spN F by omega, show hfN F + spN F - hfN F = spN F by omega, ← List.map_take, ← List.map_drop, ← List.map_take, ← List.map_drop, ← List.map_reverse]
  exact q

theorem turned_ok {F : List Int} (hl : F.length ≤ 60) {k : Nat} (hk : k ≤ hfN F) {z : Int} (hz : z = k) {Q : Vl → Vl → Prop} (q : Q (.l ((rndF F k).map .i), .t) (.n, .c)) : wFn fn__law_turned_round [(.l (F.map .i), .c), (.i z, .c)] Q := by
  subst hz
  have lim : LIM = 1000000 := rfl
  have hlen := hf_len F
  have hs := sp_lt F
  simp_arith [fn__law_turned_round, m__law_turned_round]
  simp_arith! [true_and]
  refine parts_ok hl ?_
  simp_arith [true_and]
  rw [cutD_hi (by omega), cutD_hi (by omega), Int.toNat_natCast, ← List.map_take, ← List.map_take, ← List.map_reverse, ← List.map_reverse]
  have e1 : ((F.drop (hfN F + spN F)).take k).reverse = (rows (hfN F + spN F) k).reverse.map (gF F) := by
    rw [cut_rows (by omega), List.map_reverse]
  have e2 : (((F.take (hfN F)).reverse).take k).reverse = (rows (hfN F - k) k).map (gF F) := by
    rw [List.take_reverse, List.reverse_reverse, List.length_take, Nat.min_eq_left (by omega), List.drop_take, show hfN F - (hfN F - k) = k by omega, cut_rows (by omega)]
  rw [e1, e2, cut_rows (by omega)]
  simp only [List.length_map, List.length_reverse, rows_len]
  rw [← List.map_append, ← List.map_append, ← List.map_append, ← List.map_append, ← List.map_append, ← List.map_append]
  exact ⟨by omega, by omega, by omega, q⟩

theorem whole_row_ok {F : List Int} (hl : F.length ≤ 12) {Q : Vl → Vl → Prop} (q : Q (.l ((wholeF F).map .i), .t) (.n, .c)) : wFn fn__law_whole_row [(.l (F.map .i), .c)] Q := by
  have lim : LIM = 1000000 := rfl
  have hlen := hf_len F
  have hs := sp_lt F
  simp_arith [fn__law_whole_row, m__law_whole_row]
  simp_arith! [true_and]
  refine parts_ok (by omega) ?_
  simp_arith [true_and]
  simp_arith! [true_and]
  rw [wS_seq]
  with_reducible refine wS_for' ?_
  simp_arith [true_and]
  have hdl : (F.drop (hfN F + spN F)).length = hfN F := by rw [List.length_drop]; omega
  have hlr : ∀ k, k ≤ hfN F → (rndsF F (2 ^ k - 1)).length ≤ 500 := fun k hk => by
    have h1 := rnds_len (hfN F) (spN F) (2 ^ k - 1)
    have h2 : 2 ^ k ≤ 2 ^ 6 := Nat.pow_le_pow_right (by omega) (by omega)
    have h3 : 2 * spN F * (2 ^ k - 1) ≤ 2 * 1 * 63 := Nat.mul_le_mul (by omega) (by omega)
    rw [rndsF, List.length_map]
    omega
  rw [hdl]
  refine ⟨⟨by omega, by omega, by omega⟩, fun k r => ∃ o5 : Option Vl, r = [some (.l (F.map .i), .c), some (.l ((F.take (hfN F)).reverse.map .i), .c), some (.l (((F.drop (hfN F)).take (spN F)).map .i), .c), some (.l ((F.drop (hfN F + spN F)).map .i), .c), some (.l ((rndsF F (2 ^ k - 1)).map .i), .t), o5], ⟨none, rfl⟩, ?_, ?_⟩
  · rintro k x _ hx ⟨o5, rfl⟩
    obtain ⟨rfl, hk⟩ := rngD_at hx
    have hk : k < hfN F := by omega
    have h1 := hlr k (by omega)
    have h2 : (rndF F (k + 1)).length ≤ 100 := by rw [rndF, List.length_map, rndI_len]; omega
    simp_arith [true_and]
    refine turned_ok (k := k + 1) (by omega) (by omega) (by omega) ?_
    simp_arith [true_and]
    rw [← List.map_append, ← List.map_append]
    have e : rndsF F (2 ^ (k + 1) - 1) = rndsF F (2 ^ k - 1) ++ rndF F (k + 1) ++ rndsF F (2 ^ k - 1) := by
      simp only [rndsF, rndF, rnds_dbl, List.map_append]
    rw [e]
    exact ⟨by omega, by omega, _, rfl⟩
  · rintro _ ⟨o5, rfl⟩
    rw [rngD_len, show ((hfN F : Int) + 1 - 1).toNat = hfN F by omega]
    have h1 := hlr (hfN F) (Nat.le_refl _)
    simp_arith [true_and]
    have e1 : F.take (hfN F + spN F) = F.take (hfN F) ++ (F.drop (hfN F)).take (spN F) := List.take_add
    rw [wholeF, e1] at q
    rw [← List.map_reverse, List.reverse_reverse, ← List.map_append, ← List.map_append]
    exact ⟨by simp only [List.length_append, List.length_map, List.length_take, List.length_drop]; omega, by simp only [List.length_append, List.length_map, List.length_take, List.length_drop]; omega, q⟩

theorem two_to_ok {n : Int} (h : n ≤ 1000) (h' : -1000 ≤ n) {Q : Vl → Vl → Prop} (q : Q (.i (2 ^ n.toNat), .c) (.n, .c)) : wFn fn_two_to [(.i n, .c)] Q := by
  simp_arith [↓wS_seq, wS_seq, fn_two_to, m_two_to]
  refine wS_for' ?_
  simp_arith [↓wS_seq, wS_seq]
  refine ⟨⟨by omega, limI (by omega)⟩, fun k r => ∃ o, r = [some (.i n, .c), some (.i (2 ^ k), .c), o], ⟨_, rfl⟩, ?_, ?_⟩
  · rintro k x _ hx ⟨o, rfl⟩
    simp_arith [↓wS_seq, wS_seq]
    exact ⟨_, by rw [Int.pow_succ]⟩
  · rintro _ ⟨o, rfl⟩
    simp_arith [↓wS_seq, wS_seq]
    rw [rngD_len]
    exact q

/-- a long row -/
def lrD (F : List Int) : Dt := .o "LongRow" ["folk", "half", "spare", "rounds", "begin"] [.l (F.map .i), .i (hfN F), .i (spN F), .i ((2 ^ hfN F - 1 : Nat) : Int), .i ((hfN F : Int) + spN F)]
theorem lr_f {F : List Int} {Q : Dt → Md → Prop} : wO (fFld "LongRow" "folk" [lrD F]) Q = Q (.l (F.map .i)) .c := by
  rw [lrD, fld_eq (x := .l (F.map .i)) (by rfl)]
  rfl
theorem lr_h {F : List Int} {Q : Dt → Md → Prop} : wO (fFld "LongRow" "half" [lrD F]) Q = Q (.i (hfN F)) .c := by
  rw [lrD, fld_eq (x := .i (hfN F)) (by rfl)]
  rfl
theorem lr_s {F : List Int} {Q : Dt → Md → Prop} : wO (fFld "LongRow" "spare" [lrD F]) Q = Q (.i (spN F)) .c := by
  rw [lrD, fld_eq (x := .i (spN F)) (by rfl)]
  rfl
theorem lr_r {F : List Int} {Q : Dt → Md → Prop} : wO (fFld "LongRow" "rounds" [lrD F]) Q = Q (.i ((2 ^ hfN F - 1 : Nat) : Int)) .c := by
  rw [lrD, fld_eq (x := .i ((2 ^ hfN F - 1 : Nat) : Int)) (by rfl)]
  rfl
theorem lr_b {F : List Int} {Q : Dt → Md → Prop} : wO (fFld "LongRow" "begin" [lrD F]) Q = Q (.i ((hfN F : Int) + spN F)) .c := by
  rw [lrD, fld_eq (x := .i ((hfN F : Int) + spN F)) (by rfl)]
  rfl
theorem lr_isO {F : List Int} {nm : Str} (h : (["folk", "half", "spare", "rounds", "begin"] : List Str).contains nm = false) : isO1 "LongRow" nm [lrD F] = true := by
  simp only [isO1, lrD, isO, h, decide_true, Bool.not_false, Bool.and_self]
theorem LongRow_ok {ws F : List Int} (hp : ws.Perm F) (hF : F.Pairwise (· < ·)) (hl : F.length ≤ 60) {x : Dt} (hx : x = .l (ws.map .i) ∨ x = .t (ws.map .i)) {Q : Vl → Vl → Prop} (q : Q (lrD F, .c) (.n, .c)) : wFn fn_LongRow [(x, .c)] Q := by
  have lw : ws.length ≤ 60 := by rw [hp.length_eq]; exact hl
  have e1 : isrt ws = F := isrt_eq hp.symm (hF.imp fun h => by omega)
  have e2 : ((F.length : Int)) / 2 = (hfN F : Int) := by simp only [hfN]; omega
  have e3 : ((F.length : Int)) % 2 = (spN F : Int) := by simp only [spN]; omega
  have e4 : (2 : Int) ^ hfN F - 1 = ((2 ^ hfN F - 1 : Nat) : Int) := by
    have := pow1 (hfN F)
    have e : ((2 ^ hfN F : Nat) : Int) = 2 ^ hfN F := by simp
    omega
  have hh : hfN F ≤ 30 := by simp only [hfN]; omega
  have fin : ∀ (Q : Vl → Vl → Prop), Q (lrD F, .c) (.n, .c) → True := fun _ _ => trivial
  have rest : ∀ (Q : Vl → Vl → Prop), Q (lrD F, .c) (.n, .c) → wFn fn_LongRow [(.l (ws.map .i), .c)] Q := fun Q q => by
    simp_arith [fn_LongRow, m_LongRow, wO_srtL (show ws.length ≤ 1000 by omega)]
    rw [e1, fld_eq (x := .l (F.map .i)) (by rfl)]
    simp_arith [true_and]
    rw [e2]
    refine ⟨by rfl, ?_⟩
    rw [fld_eq (x := .l (F.map .i)) (by rfl)]
    simp_arith [true_and]
    rw [e3]
    refine ⟨by rfl, ?_⟩
    rw [fld_eq (x := .i (hfN F)) (by rfl)]
    simp_arith [true_and]
    refine two_to_ok (by omega) (by omega) ?_
    rw [Int.toNat_natCast]
    simp_arith [true_and]
    rw [e4]
    refine ⟨by rfl, ?_⟩
    rw [fld_eq (x := .i (hfN F)) (by rfl)]
    simp_arith [true_and]
    rw [fld_eq (x := .i (spN F)) (by rfl)]
    simp_arith [true_and]
    exact ⟨by rfl, q⟩
  rcases hx with rfl | rfl
  · exact rest Q q
  · simp_arith [fn_LongRow, m_LongRow, wO_srtT (show ws.length ≤ 1000 by omega)]
    rw [e1, fld_eq (x := .l (F.map .i)) (by rfl)]
    simp_arith [true_and]
    rw [e2]
    refine ⟨by rfl, ?_⟩
    rw [fld_eq (x := .l (F.map .i)) (by rfl)]
    simp_arith [true_and]
    rw [e3]
    refine ⟨by rfl, ?_⟩
    rw [fld_eq (x := .i (hfN F)) (by rfl)]
    simp_arith [true_and]
    refine two_to_ok (by omega) (by omega) ?_
    rw [Int.toNat_natCast]
    simp_arith [true_and]
    rw [e4]
    refine ⟨by rfl, ?_⟩
    rw [fld_eq (x := .i (hfN F)) (by rfl)]
    simp_arith [true_and]
    rw [fld_eq (x := .i (spN F)) (by rfl)]
    simp_arith [true_and]
    exact ⟨by rfl, q⟩

theorem ones_in_ok {n : Nat} (h : n < 2 ^ 1000) {Q : Vl → Vl → Prop} (q : Q (.i (onesN n), .c) (.n, .c)) : wFn fn_ones_in [(.i n, .c)] Q := by
  simp_arith [fn_ones_in, m_ones_in]
  simp_arith! [true_and]
  rw [wS_seq]
  refine wS_wh (n := 1000) (fun k r => ∃ a x : Nat, r = [some (.i a, .c), some (.i x, .c)] ∧ x + onesN a = onesN n ∧ a < 2 ^ k) (by omega) ⟨n, 0, rfl, by omega, h⟩ ?_
  rintro k _ ⟨a, x, rfl, e, ha⟩
  simp_arith [true_and]
  refine ⟨fun hc => ?_, fun hc => ?_⟩
  · have hc : a = 0 := by omega
    subst hc
    have : onesN 0 = 0 := by simp [onesN]
    rw [this] at e
    simp_arith [true_and]
    obtain rfl : x = onesN n := by omega
    exact q
  · have hc : 0 < a := by omega
    have hk : k ≠ 0 := fun c => by subst c; simp at ha; omega
    obtain ⟨k, rfl⟩ : ∃ j, k = j + 1 := ⟨k - 1, by omega⟩
    refine ⟨k, by omega, ?_⟩
    have e1 := onesN_eq a
    rw [Nat.pow_succ] at ha
    simp_arith [true_and]
    refine ⟨a / 2, x + a % 2, ?_, by omega, by omega⟩
    simp [Dt.flat]

theorem behind_lr_ok {F : List Int} {r : Nat} (hr : r < 2 ^ 60) {z : Int} (hz : z = r) {Q : Vl → Vl → Prop} (q : Q (.i (bhN F r), .c) (.n, .c)) : wFn fn_LongRow_behind [(lrD F, .c), (.i z, .c)] Q := by
  subst hz
  have hs := sp_lt F
  rw [bh_eq] at q
  simp_arith [fn_LongRow_behind, m_LongRow_behind, lr_f, lr_h, lr_s, lr_r, lr_b]
  refine ones_in_ok (Nat.lt_of_lt_of_le hr (Nat.pow_le_pow_right (by omega) (by omega))) ?_
  simp_arith [lr_f, lr_h, lr_s, lr_r, lr_b]
  exact ⟨cMulL (by omega) (by omega), q⟩

theorem high_ok {F : List Int} {z : Int} (h1 : 1 ≤ z) (h2 : z ≤ hfN F) {Q : Vl → Vl → Prop} (q : Q (.i (gF F ((hfN F : Int) + spN F + z - 1)), .c) (.n, .c)) : wFn fn_LongRow_high [(lrD F, .c), (.i z, .c)] Q := by
  have hl := hf_len F
  simp_arith [fn_LongRow_high, m_LongRow_high, lr_f, lr_h, lr_s, lr_r, lr_b]
  refine wAt_i (by omega) (by omega) fun a ha => ?_
  rw [gF, List.getD_eq_getElem?_getD, ha] at q
  simp_arith [true_and]
  exact q

theorem low_ok {F : List Int} {z : Int} (h1 : 1 ≤ z) (h2 : z ≤ hfN F) {Q : Vl → Vl → Prop} (q : Q (.i (gF F ((hfN F : Int) - z)), .c) (.n, .c)) : wFn fn_LongRow_low [(lrD F, .c), (.i z, .c)] Q := by
  have hl := hf_len F
  simp_arith [fn_LongRow_low, m_LongRow_low, lr_f, lr_h, lr_s, lr_r, lr_b]
  refine wAt_i (by omega) (by omega) fun a ha => ?_
  rw [gF, List.getD_eq_getElem?_getD, ha] at q
  simp_arith [true_and]
  exact q

theorem twos_in_ok {c : Nat} {z : Int} (hz : z = (c : Int) + 1) (h : c < 2 ^ 1000) {Q : Vl → Vl → Prop} (q : Q (.i (lowN c), .c) (.n, .c)) : wFn fn_twos_in [(.i z, .c)] Q := by
  simp_arith [fn_twos_in, m_twos_in]
  simp_arith! [true_and]
  rw [wS_seq]
  refine wS_wh (n := 1000) (fun k r => ∃ (a x : Nat) (z : Int), r = [some (.i z, .c), some (.i x, .c)] ∧ z = (a : Int) + 1 ∧ x + lowN a = lowN c ∧ a < 2 ^ k) (by omega) ⟨c, 0, z, rfl, hz, by omega, h⟩ ?_
  rintro k _ ⟨a, x, z, rfl, hz, e, ha⟩
  simp_arith [true_and]
  refine ⟨fun hc => ?_, fun hc => ?_⟩
  · have hc : ¬ a % 2 = 1 := by omega
    have : lowN a = 0 := by rw [lowN, dif_neg hc]
    rw [this] at e
    simp_arith [true_and]
    obtain rfl : x = lowN c := by omega
    exact q
  · have hc : a % 2 = 1 := by omega
    have hk : k ≠ 0 := fun c => by subst c; rw [Nat.pow_zero] at ha; omega
    obtain ⟨k, rfl⟩ : ∃ j, k = j + 1 := ⟨k - 1, by omega⟩
    refine ⟨k, by omega, ?_⟩
    have e1 : lowN a = 1 + lowN (a / 2) := by rw [lowN, dif_pos hc]
    rw [Nat.pow_succ] at ha
    simp_arith [true_and]
    refine ⟨a / 2, x + 1, z / 2, ?_, by omega, by omega, by omega⟩
    simp [Dt.flat]

theorem in_round_ok {F : List Int} {r : Nat} (hr : r + 1 < 2 ^ hfN F) (hl : F.length ≤ 60) {z : Int} (hz : z = (r : Int) + 1) {Q : Vl → Vl → Prop} (q : Q (.l ((rndF F (1 + lowN r)).map .i), .t) (.n, .c)) : wFn fn_LongRow_in_round [(lrD F, .c), (.i z, .c)] Q := by
  have lim : LIM = 1000000 := rfl
  have hs := sp_lt F
  have hlen := hf_len F
  have hk := low_lt hr
  have hk30 : hfN F ≤ 30 := by omega
  have hr2 : r < 2 ^ 1000 := Nat.lt_of_lt_of_le (show r < 2 ^ hfN F by omega) (Nat.pow_le_pow_right (by omega) (by omega))
  simp_arith [fn_LongRow_in_round, m_LongRow_in_round]
  simp_arith! [true_and]
  refine twos_in_ok hz hr2 ?_
  simp_arith [true_and]
  generalize lowN r = k at *
  refine ⟨by omega, by omega, by omega, ?_⟩
  have er : rngC (1 + (k : Int)) (-1) (1 + (k : Int) - 0).toNat = (List.range (1 + k)).map fun j : Nat => Dt.i (1 + (k : Int) - j) := by
    rw [rngC, show (1 + (k : Int) - 0).toNat = 1 + k by omega]
    refine List.map_congr_left fun j _ => ?_
    congr 1
    omega
  rw [er]
  simp_arith! [lr_f, lr_h, lr_s, lr_r, lr_b]
  rw [cutD_lh (by omega) (by omega), Int.toNat_natCast, show ((hfN F : Int) + spN F).toNat - hfN F = spN F by omega, ← List.map_drop, ← List.map_take, cut_rows (by omega)]
  simp_arith [lr_f, lr_h, lr_s, lr_r, lr_b, lr_isO (nm := "high") (by rfl), lr_isO (nm := "low") (by rfl)]
  refine ⟨by rw [List.length_range]; omega, _, _, lc_mM (f := fun j : Nat => Dt.i (1 + (k : Int) - j)) (fun j : Nat => .i (gF F ((hfN F : Int) + spN F + (1 + (k : Int) - j) - 1))) fun j hj => ?_, ?_⟩
  · have hj := List.mem_range.mp hj
    simp_arith [lr_isO (nm := "high") (by rfl), lr_isO (nm := "low") (by rfl)]
    refine high_ok (by omega) (by omega) ?_
    simp_arith [true_and]
  · simp_arith [lr_isO (nm := "high") (by rfl), lr_isO (nm := "low") (by rfl)]
    refine ⟨by simp [rows_len]; omega, by rw [List.length_range]; omega, _, _, lc_mM (f := fun j : Nat => Dt.i (1 + (k : Int) - j)) (fun j : Nat => .i (gF F ((hfN F : Int) - (1 + (k : Int) - j)))) fun j hj => ?_, ?_⟩
    · have hj := List.mem_range.mp hj
      simp_arith [lr_isO (nm := "high") (by rfl), lr_isO (nm := "low") (by rfl)]
      refine low_ok (by omega) (by omega) ?_
      simp_arith [true_and]
    · simp_arith [true_and]
      have e1 : ((List.range (1 + k)).map fun j : Nat => Dt.i (gF F ((hfN F : Int) + spN F + (1 + (k : Int) - j) - 1))) = ((rows (hfN F + spN F) (1 + k)).reverse.map (gF F)).map .i := by
        rw [rows_rev, List.map_map, List.map_map]
        refine List.map_congr_left fun j _ => ?_
        show Dt.i (gF F _) = Dt.i (gF F (((hfN F + spN F : Nat) : Int) + (((1 + k : Nat) : Int) - j) - 1))
        congr 2
      have e2 : ((List.range (1 + k)).map fun j : Nat => Dt.i (gF F ((hfN F : Int) - (1 + (k : Int) - j)))) = ((rows (hfN F - (1 + k)) (1 + k)).map (gF F)).map .i := by
        rw [rows, List.map_map, List.map_map]
        refine List.map_congr_left fun j hj => ?_
        show Dt.i (gF F _) = Dt.i (gF F ((hfN F - (1 + k) + j : Nat) : Int))
        congr 2
        omega
      rw [e1, e2, List.length_range, rows_len, ← List.map_append, ← List.map_append, ← List.map_append, ← List.map_append, ← List.map_append, ← List.map_append]
      exact ⟨by omega, by omega, q⟩

theorem rounds_in_ok {F : List Int} {p : Nat} (hl : F.length ≤ 60) (h1 : bhN F 0 ≤ p) {Q : Vl → Vl → Prop} (q : ∀ r : Nat, r < 2 ^ hfN F → bhN F r ≤ p → (r + 1 < 2 ^ hfN F → p < bhN F (r + 1)) → Q (.i r, .c) (.n, .c)) : wFn fn_LongRow_rounds_in [(lrD F, .c), (.i p, .c)] Q := by
  have lim : LIM = 1000000 := rfl
  have hlen := hf_len F
  have hk30 : hfN F ≤ 30 := by omega
  have h2 : 2 ^ hfN F ≤ 2 ^ 30 := Nat.pow_le_pow_right (by omega) hk30
  have hp1 := pow1 (hfN F)
  simp_arith [fn_LongRow_rounds_in, m_LongRow_rounds_in, lr_f, lr_h, lr_s, lr_r, lr_b]
  simp_arith! [lr_f, lr_h, lr_s, lr_r, lr_b]
  rw [wS_seq]
  refine wS_wh (n := hfN F) (fun k r => ∃ (a c : Nat) (x y : Int) (o : Option Vl), r = [some (lrD F, .c), some (.i p, .c), some (.i x, .c), some (.i y, .c), o] ∧ x = a ∧ y = c ∧ a < c ∧ c ≤ 2 ^ hfN F ∧ bhN F a ≤ p ∧ (c < 2 ^ hfN F → p < bhN F c) ∧ c - a ≤ 2 ^ k) (by omega) ⟨0, 2 ^ hfN F, _, _, none, rfl, by simp, by omega, by omega, Nat.le_refl _, h1, fun c => by omega, by omega⟩ ?_
  rintro k _ ⟨a, c, x, y, o, rfl, hx, hy, g1, g2, g3, g4, g5⟩
  simp_arith [true_and]
  refine ⟨fun hc => ?_, fun hc => ?_⟩
  · have : c = a + 1 := by omega
    subst this
    simp_arith [true_and]
    rw [hx]
    exact q a (by omega) g3 g4
  · have hk : k ≠ 0 := fun e => by rw [e, Nat.pow_zero] at g5; omega
    obtain ⟨k, rfl⟩ : ∃ j, k = j + 1 := ⟨k - 1, by omega⟩
    rw [pow2] at g5
    refine ⟨k, by omega, ?_⟩
    simp_arith! [true_and]
    simp_arith [lr_isO (nm := "behind") (by rfl)]
    have hm : (x + y) / 2 = (((a + c) / 2 : Nat) : Int) := by omega
    refine behind_lr_ok (r := (a + c) / 2) (by omega) hm ?_
    simp_arith [true_and]
    refine ⟨fun hc => ?_, fun hc => ?_⟩
    · exact ⟨(a + c) / 2, c, _, _, _, rfl, hm, hy, by omega, g2, by omega, g4, by omega⟩
    · exact ⟨a, (a + c) / 2, _, _, _, rfl, hx, hm, by omega, by omega, g3, fun _ => by omega, by omega⟩

theorem goer_ok {F : List Int} {p : Nat} (hl : F.length ≤ 60) (hp : p < (wholeF F).length) {z : Int} (hz : z = p) {Q : Vl → Vl → Prop} (q : ∀ w, (wholeF F)[p]? = some w → Q (.i w, .c) (.n, .c)) : wFn fn_LongRow_goer [(lrD F, .c), (.i z, .c)] Q := by
  subst hz
  have lim : LIM = 1000000 := rfl
  have hlen := hf_len F
  have hk30 : hfN F ≤ 30 := by omega
  have h2 : 2 ^ hfN F ≤ 2 ^ 30 := Nat.pow_le_pow_right (by omega) hk30
  have hp1 := pow1 (hfN F)
  simp_arith [fn_LongRow_goer, m_LongRow_goer, lr_f, lr_h, lr_s, lr_r, lr_b]
  simp_arith! [lr_f, lr_h, lr_s, lr_r, lr_b]
  refine ⟨fun hc => ?_, fun hc => ?_⟩
  · refine wAt_i (by omega) (by omega) fun a ha => ?_
    rw [Int.toNat_natCast] at ha
    simp_arith [true_and]
    exact q a (by rw [whole_first F (by omega)]; exact ha)
  · have hb : bhN F 0 = hfN F + spN F := by simp [bhN, rndsF, rnds_0]
    simp_arith! [true_and]
    simp_arith [lr_isO (nm := "rounds_in") (by rfl), lr_isO (nm := "in_round") (by rfl), lr_isO (nm := "behind") (by rfl)]
    refine rounds_in_ok hl (by omega) fun r r1 r2 r3 => ?_
    have hr : r + 1 < 2 ^ hfN F := by
      apply Nat.lt_of_not_le
      intro c
      have : r = 2 ^ hfN F - 1 := by omega
      rw [whole_len, ← this] at hp
      omega
    simp_arith [lr_isO (nm := "rounds_in") (by rfl), lr_isO (nm := "in_round") (by rfl), lr_isO (nm := "behind") (by rfl)]
    refine in_round_ok hr hl rfl ?_
    simp_arith [lr_isO (nm := "rounds_in") (by rfl), lr_isO (nm := "in_round") (by rfl), lr_isO (nm := "behind") (by rfl)]
    refine behind_lr_ok (by omega) rfl ?_
    simp_arith [true_and]
    have h3 := r3 hr
    have hlr : (rndF F (1 + lowN r)).length = 2 * (1 + lowN r) + 2 * spN F := by rw [rndF, List.length_map, rndI_len]
    rw [bh_s] at h3
    refine wAt_i (by omega) (by omega) fun a ha => ?_
    simp_arith [true_and]
    refine q a ?_
    rw [whole_get F hr r2 (r3 hr)]
    rw [← ha]
    congr 1
    omega

theorem long_size_ok {F : List Int} (hl : F.length ≤ 60) {Q : Vl → Vl → Prop} (q : Q (.i ((wholeF F).length : Nat), .c) (.n, .c)) : wFn fn_LongRow_long_size [(lrD F, .c)] Q := by
  have hlen := hf_len F
  have h2 : 2 ^ hfN F ≤ 2 ^ 30 := Nat.pow_le_pow_right (by omega) (by omega)
  rw [whole_len] at q
  simp_arith [fn_LongRow_long_size, m_LongRow_long_size, lr_r, lr_isO (nm := "behind") (by rfl)]
  refine behind_lr_ok (by omega) rfl ?_
  exact q

theorem look_place_ok {p m : Int} (h0 : 0 ≤ p) (h1 : p < m) {Q : Vl → Vl → Prop} (q : Q (.n, .c) (.n, .c)) : wFn fn_look_place [(.i p, .c), (.i m, .c)] Q := by
  simp_arith [fn_look_place, m_look_place]
  exact ⟨fun _ => ⟨fun c => absurd h1 c, fun _ => q⟩, fun c => absurd h0 c⟩

theorem long_goer_ok {ws F : List Int} (hp : ws.Perm F) (hF : F.Pairwise (· < ·)) (hl : F.length ≤ 60) {x : Dt} (hx : x = .l (ws.map .i) ∨ x = .t (ws.map .i)) {p : Nat} (hpl : p < (wholeF F).length) {z : Int} (hz : z = p) {Q : Vl → Vl → Prop} (q : ∀ w, (wholeF F)[p]? = some w → Q (.i w, .c) (.n, .c)) : wFn fn_long_goer [(x, .c), (.i z, .c)] Q := by
  subst hz
  simp_arith [fn_long_goer, m_long_goer]
  simp_arith! [true_and]
  refine LongRow_ok hp hF hl hx ?_
  simp_arith [true_and]
  simp_arith! [lr_isO (nm := "long_size") (by rfl)]
  refine long_size_ok hl ?_
  simp_arith [true_and]
  refine look_place_ok (by omega) (by omega) ?_
  simp_arith [lr_isO (nm := "goer") (by rfl)]
  refine goer_ok (p := p) hl hpl rfl fun w hw => ?_
  simp_arith [true_and]
  exact q w hw

theorem long_row_ok {ws F : List Int} (hp : ws.Perm F) (hF : F.Pairwise (· < ·)) (hl : F.length ≤ 60) {x : Dt} (hx : x = .l (ws.map .i) ∨ x = .t (ws.map .i)) {p n : Nat} (hpl : p ≤ (wholeF F).length) (hn : n ≤ 1000000) {z y : Int} (hz : z = p) (hy : y = n) {Q : Vl → Vl → Prop} (q : Q (.l ((((wholeF F).drop p).take n).map .i), .t) (.n, .c)) : wFn fn_long_row [(x, .c), (.i z, .c), (.i y, .c)] Q := by
  subst hz hy
  have lim : LIM = 1000000 := rfl
  have hlen := hf_len F
  have hsz : (wholeF F).length ≤ 2 ^ 40 := by
    have h1 := rnds_len (hfN F) (spN F) (2 ^ hfN F - 1)
    have hs := sp_lt F
    have h2 : 2 ^ hfN F ≤ 2 ^ 30 := Nat.pow_le_pow_right (by omega) (by omega)
    have h3 : 2 * spN F * (2 ^ hfN F - 1) ≤ 2 * 1 * (2 ^ 30 - 1) := Nat.mul_le_mul (by omega) (by omega)
    rw [whole_len, bhN, rndsF, List.length_map]
    omega
  simp_arith [fn_long_row, m_long_row]
  simp_arith! [true_and]
  refine LongRow_ok hp hF hl hx ?_
  simp_arith [true_and]
  simp_arith! [lr_isO (nm := "long_size") (by rfl)]
  refine long_size_ok hl ?_
  simp_arith [true_and]
  refine look_place_ok (by omega) (by omega) ?_
  simp_arith [lr_isO (nm := "long_size") (by rfl)]
  refine long_size_ok hl ?_
  simp_arith [true_and]
  generalize hm : (if ((p : Int) + n) < ((wholeF F).length : Int) then ((p : Int) + n) else ((wholeF F).length : Int)) = m
  have hcn : (m - (p : Int)).toNat = min n ((wholeF F).length - p) := by
    split at hm <;> omega
  have hb : m ≤ 2 ^ 40 ∧ -(2 ^ 40) ≤ m ∧ m - p ≤ 1000000 := by
    split at hm <;> omega
  have er : rngD (p : Int) (m - (p : Int)).toNat = (List.range (m - (p : Int)).toNat).map fun i : Nat => Dt.i ((p : Int) + i) := rfl
  rw [rngD_len, er]
  refine ⟨⟨by omega, by omega, by omega, by omega, by omega⟩, by omega, _, _, lc_mM (f := fun i : Nat => Dt.i ((p : Int) + i)) (fun i : Nat => .i ((wholeF F).getD (p + i) 0)) fun i hi => ?_, ?_⟩
  · have hi := List.mem_range.mp hi
    simp_arith [lr_isO (nm := "goer") (by rfl)]
    refine goer_ok (p := p + i) hl (by omega) (by omega) fun w hw => ?_
    rw [List.getD_eq_getElem?_getD, hw]
    simp_arith [true_and]
    rfl
  · have e : ((List.range (m - (p : Int)).toNat).map fun i : Nat => Dt.i ((wholeF F).getD (p + i) 0)) = (((wholeF F).drop p).take n).map .i := by
      apply List.ext_getElem
      · rw [List.length_map, List.length_range, List.length_map, List.length_take, List.length_drop, hcn]
      · intro i h1 h2
        rw [List.length_map, List.length_range] at h1
        simp only [List.getElem_map, List.getElem_range, List.getElem_take, List.getElem_drop]
        rw [List.getD_eq_getElem?_getD, List.getElem?_eq_getElem (by omega)]
        rfl
    rw [e]
    exact q

theorem cutD_last {xs : List Dt} : Y.cutD xs (some (-1)) none = xs.drop (xs.length - 1) := by
  unfold Y.cutD
  have e : HT.sIx xs.length 0 (some (-1)) = xs.length - 1 := by
    show (if (-1 : Int) < 0 then ((-1 : Int) + (xs.length : Int)).toNat else min (-1 : Int).toNat xs.length) = xs.length - 1
    rw [if_pos (by decide)]
    omega
  rw [e, HT.sIx_none, List.take_of_length_le (by rw [List.length_drop]; omega)]
theorem zf_i (ns : List Int) : zfl (.l (ns.map .i), .t) = true := flat_i _
theorem zf_0 : zfl (.l [], .t) = true := rfl
theorem right_ok {n : Nat} {t : Dt} (ht : Tp (n + 400) t) {Q : Vl → Vl → Prop} (q : ∀ t', Tp n t' → Q (.b true, .c) (t', .t)) : wFn fn__law_right [(t, .t)] Q := by
  have lim : LIM = 1000000 := rfl
  simp_arith [fn__law_right, m__law_right]
  simp_arith! [true_and]
  refine draw_ok (n := n + 399) ht (by omega) (by omega) fun a t1 a0 a1 ht => ?_
  simp_arith [ht.zfl]
  obtain ⟨u, rfl⟩ := Int.eq_ofNat_of_zero_le a0
  rw [show (1 : Int) + (u : Int) = ((u + 1 : Nat) : Int) by omega]
  refine weights_ok (n := n + 300) (u := u + 1) (ht.less (by omega)) (by omega) fun F t2 hFl hFb hF ht => ?_
  simp_arith [ht.zfl]
  have hl : F.length ≤ 12 := by omega
  have hne : F ≠ [] := fun c => by rw [c] at hFl; simp at hFl
  have hn0 : 0 < F.length := by omega
  have hlen := hf_len F
  have hs := sp_lt F
  have hwl : (wholeF F).length ≤ 1000 ∧ 1 ≤ (wholeF F).length := by
    have h1 := rnds_len (hfN F) (spN F) (2 ^ hfN F - 1)
    have h2 : 2 ^ hfN F ≤ 2 ^ 6 := Nat.pow_le_pow_right (by omega) (by omega)
    have h3 : 2 * spN F * (2 ^ hfN F - 1) ≤ 2 * 1 * 63 := Nat.mul_le_mul (by omega) (by omega)
    rw [whole_len, bhN, rndsF, List.length_map]
    omega
  obtain ⟨hw1, hw2⟩ := hwl
  simp_arith! [true_and]
  refine part_ok (n := n + 250) (ht.less (by omega)) (by omega) fun ws t3 hp ht => ?_
  simp_arith [ht.zfl]
  have hwl : ws.length ≤ 12 := by rw [hp.length_eq]; exact hl
  have r1 : lf (.l (ws.map .i)) = true := by
    simp only [lf]
    exact lf_i fun a ha => by have := hFb a (hp.mem_iff.mp ha); omega
  have r2 : bk (.l (ws.map .i)) ≤ 200000 := by simp only [bk, bk_i]; omega
  have r3 : dp (.l (ws.map .i)) ≤ 20 := by simp only [dp, dp_i]; omega
  have pw : ∀ d, pl (d + 2) (.l ((wholeF F).map .i)) = true := fun d => pl_li (by omega)
  simp_arith! [true_and]
  refine wO_repr rfl r1 r2 r3 ?_
  simp_arith [true_and]
  refine whole_row_ok hl ?_
  simp_arith [true_and]
  simp_arith! [true_and]
  refine long_row_ok hp hF (by omega) (.inl rfl) (p := 0) (n := (wholeF F).length) (by omega) (by omega) (by rfl) (by rfl) ?_
  rw [List.drop_zero, List.take_length]
  simp_arith [true_and]
  refine long_row_ok (List.Perm.refl F) hF (by omega) (.inr rfl) (p := 0) (n := 1000000) (by omega) (by omega) (by rfl) (by rfl) ?_
  rw [List.drop_zero, List.take_of_length_le (by omega)]
  simp_arith [true_and]
  refine ⟨by simp [zfl, flat_i], ?_⟩
  have pL2 : pl 8 (.l [.l ((wholeF F).map .i), .l ((wholeF F).map .i)]) = true := pl_l (by simp) fun x hx => by
    simp only [List.mem_cons, List.not_mem_nil, or_false] at hx
    rcases hx with rfl | rfl <;> exact pw 5
  simp_arith! [true_and]
  refine same_ok 8 _ pL2 ?_
  simp_arith [true_and]
  simp_arith! [true_and]
  refine wS_apN ?_
  simp_arith [true_and]
  refine ⟨by omega, ?_⟩
  rw [wS_seq]
  refine wS_revN (ks := [1]) (x' := .l [.l ((wholeF F).map .i ++ [.s (PySem.Str.ofString "more")]), .l ((wholeF F).map .i).reverse]) (by rfl) (by rfl) (by rfl) (flat_i _) (by simp [rvP, ixN, flat_i]) ?_
  simp_arith [true_and]
  rw [wS_seq]
  with_reducible refine wS_for' ?_
  simp_arith [true_and]
  have pl2 : ∀ ns : List Int, ns.length ≤ 1000 → pl 8 (.l [.l (ns.map .i), .l (ns.map .i)]) = true := fun ns hn => pl_l (by simp) fun x hx => by
    simp only [List.mem_cons, List.not_mem_nil, or_false] at hx
    rcases hx with rfl | rfl <;> exact pl_li (d := 5) hn
  refine ⟨fun k e => ∃ (t : Dt) (o5 o6 o7 o8 : Option Vl), e = [some (t, .t), some (.l (F.map .i), .t), some (.l (ws.map .i), .t), some (.s (shw (.l (ws.map .i))), .c), some (.l ((wholeF F).map .i), .c), o5, o6, o7, o8] ∧ Tp (n + 100 + 2 * (12 - k)) t, ⟨t3, _, none, none, none, rfl, ht.less (by omega)⟩, ?_, ?_⟩
  · rintro k x _ hx ⟨t, o5, o6, o7, o8, rfl, ht⟩
    obtain ⟨rfl, hk⟩ := rngD_at hx
    have hk : k < 12 := hk
    simp_arith [true_and]
    simp_arith! [true_and]
    refine draw_ok (n := n + 101 + 2 * (12 - (k + 1))) (ht.less (by omega)) (by omega) (by omega) fun a t4 a0 a1 ht => ?_
    simp_arith [ht.zfl]
    obtain ⟨p, rfl⟩ := Int.eq_ofNat_of_zero_le a0
    refine draw_ok (n := n + 100 + 2 * (12 - (k + 1))) (ht.less (by omega)) (by omega) (by omega) fun b t5 b0 b1 ht => ?_
    simp_arith [ht.zfl]
    obtain ⟨m, rfl⟩ := Int.eq_ofNat_of_zero_le b0
    have hsl : (((wholeF F).drop p).take m).length ≤ 1000 := by rw [List.length_take, List.length_drop]; omega
    simp_arith! [true_and]
    refine long_row_ok hp hF (by omega) (.inl rfl) (p := p) (n := m) (by omega) (by omega) (by rfl) (by rfl) ?_
    simp_arith [true_and]
    refine long_row_ok (List.Perm.refl F) hF (by omega) (.inl rfl) (p := p) (n := m) (by omega) (by omega) (by rfl) (by rfl) ?_
    simp_arith [true_and]
    refine ⟨by simp only [List.all_cons, List.all_nil, zf_i, Bool.and_self], ?_⟩
    simp_arith! [true_and]
    rw [cutD_lh (by omega) (by omega), Int.toNat_natCast, show ((p : Int) + m).toNat - p = m by omega, ← List.map_drop, ← List.map_take]
    simp_arith [true_and]
    refine same_ok 8 _ (pl2 _ hsl) ?_
    simp_arith [true_and]
    exact ⟨_, _, _, _, _, rfl, ht⟩
  · rintro _ ⟨t, o5, o6, o7, o8, rfl, ht⟩
    simp_arith! [true_and]
    refine long_row_ok (List.Perm.refl F) hF (by omega) (.inl rfl) (p := (wholeF F).length) (n := 5) (by omega) (by omega) (by rfl) (by rfl) ?_
    rw [List.drop_length, List.take_nil]
    simp_arith [true_and]
    refine long_row_ok (List.Perm.refl F) hF (by omega) (.inl rfl) (p := 0) (n := 0) (by omega) (by omega) (by rfl) (by rfl) ?_
    rw [List.take_zero]
    simp_arith [true_and]
    refine long_row_ok (List.Perm.refl F) hF (by omega) (.inl rfl) (p := (wholeF F).length - 1) (n := 9) (by omega) (by omega) (by omega) (by rfl) ?_
    simp_arith [true_and]
    refine ⟨by simp only [List.all_cons, List.all_nil, zf_i, zf_0, Bool.and_self], ?_⟩
    have hd1 : ((wholeF F).drop ((wholeF F).length - 1)).length ≤ 1 := by rw [List.length_drop]; omega
    rw [List.take_of_length_le (by omega)]
    simp_arith! [true_and]
    rw [cutD_last, List.length_map, ← List.map_drop]
    simp_arith [true_and]
    refine same_ok 8 _ (pl_l (by simp) fun x hx => ?_) ?_
    · simp only [List.mem_cons, List.not_mem_nil, or_false] at hx
      rcases hx with rfl | rfl | rfl
      · exact pl_li (d := 5) (ns := []) (by simp)
      · exact pl_li (d := 5) (ns := []) (by simp)
      · exact pl_li (d := 5) (by omega)
    simp_arith [true_and]
    rw [wS_seq]
    with_reducible refine wS_for' ?_
    simp_arith [true_and]
    refine ⟨fun k e => ∃ (t : Dt) (o5 o6 o7 o8 : Option Vl), e = [some (t, .t), some (.l (F.map .i), .t), some (.l (ws.map .i), .t), some (.s (shw (.l (ws.map .i))), .c), some (.l ((wholeF F).map .i), .c), o5, o6, o7, o8] ∧ Tp (n + 2 * (12 - k)) t, ⟨t, _, o6, o7, o8, rfl, ht.less (by rw [rngD_len]; omega)⟩, ?_, ?_⟩
    · rintro k x _ hx ⟨t, o5, o6, o7, o8, rfl, ht⟩
      obtain ⟨rfl, hk⟩ := rngD_at hx
      have hk : k < 12 := hk
      simp_arith [true_and]
      simp_arith! [true_and]
      refine draw_ok (n := n + 2 * (12 - (k + 1))) (ht.less (by omega)) (by omega) (by omega) fun a t4 a0 a1 ht => ?_
      simp_arith [ht.zfl]
      obtain ⟨p, rfl⟩ := Int.eq_ofNat_of_zero_le a0
      refine long_goer_ok hp hF (by omega) (.inl rfl) (p := p) (by omega) (by rfl) fun w hw => ?_
      simp_arith [true_and]
      refine long_goer_ok hp hF (by omega) (.inr rfl) (p := p) (by omega) (by rfl) fun w2 hw2 => ?_
      rw [hw] at hw2
      obtain rfl := Option.some.inj hw2
      simp_arith [true_and]
      refine wAt_i (by omega) (by omega) fun c hc => ?_
      rw [Int.toNat_natCast, hw] at hc
      obtain rfl := Option.some.inj hc
      simp_arith [true_and]
      refine same_ok 8 _ (by simp [pl, LIM]) ?_
      simp_arith [true_and]
      exact ⟨_, _, _, _, _, rfl, ht⟩
    · rintro _ ⟨t, o5, o6, o7, o8, rfl, ht⟩
      simp_arith [true_and]
      refine wO_repr rfl r1 r2 r3 ?_
      simp_arith [true_and]
      exact q t (ht.less (by omega))

theorem tape_ok {cs : List Int} {k : Int} (h0 : 0 ≤ k) (hk : k ≤ 1000) {Q : Vl → Vl → Prop} (q : ∀ t, Tp (2 ^ 29) t → Q (t, .t) (.n, .c)) : wFn fn__law_tape [(.l (cs.map .i), .c), (.i k, .c)] Q := by
  simp_arith [↓wS_seq, wS_seq, fn__law_tape, m__law_tape]
  refine ⟨fun h => ?_, fun h => ?_⟩
  · refine wAt_i h0 h fun c _ => ?_
    simp_arith [↓wS_seq, wS_seq]
    refine q _ ⟨_, _, _, rfl, by omega, by omega, by omega, by omega⟩
  · refine q _ ⟨_, _, _, rfl, by omega, by omega, by omega, by omega⟩

theorem law_true (ns : List Int) (h : ns.length ≤ 63) (hb : ∀ z ∈ ns, Builtin.Int.intBits z ≤ 1048576) : ∃ m z, fn_law [(.z (ns.map .i), .c)] = .rt (.b true, m) z := by
  have go : wFn fn_law [(.z (ns.map .i), .c)] fun x _ => x.1 = .b true := by
    simp_arith [fn_law, m_law]
    rw [wS_seq]
    simp_arith [true_and]
    refine folded_ok (u := 2) h (by omega) (by omega) fun cs hl => ?_
    simp_arith [true_and]
    have hw1 : (if (cs.length : Int) > 1 then (cs.length : Int) else 1) ≤ 100 := by split <;> omega
    have hw0 : 0 ≤ (if (cs.length : Int) > 1 then (cs.length : Int) else 1) := by split <;> omega
    generalize (if (cs.length : Int) > 1 then (cs.length : Int) else 1) = w at hw0 hw1 ⊢
    refine ⟨by omega, by rw [rngD_len]; omega, _, _, lc_map (fun _ => .b true) _ _ fun x hx => ?_, ?_⟩
    · obtain ⟨i, hi, rfl⟩ := mem_rngD hx
      simp_arith [true_and]
      refine tape_ok (by omega) (by omega) fun t ht => ?_
      simp_arith [wM_f ht.zfl]
      refine right_ok (n := 0) (ht.less (by omega)) fun t2 _ => ?_
      simp_arith [true_and]
    · rw [List.nil_append, map_true]
      simp_arith [all_true]
  obtain ⟨x, z, e, hx⟩ := wFn_ex go
  obtain ⟨x, m⟩ := x
  simp only at hx
  subst hx
  exact ⟨m, z, e⟩

end YL
open PySem PySem.W PyProof.Rows in
set_option maxRecDepth 100000 in
set_option maxHeartbeats 0 in
theorem PySem.Challenge.cw_sortdoors_k18_the_long_row_of_few_holds : PySem.Challenge.rw_sortdoors_k18_the_long_row_of_few.Holds := by
  w_on; o_law; k_head; (case hw => w_witness2)
  k_fill
  refine YL.walk (l := PySem.Challenge.rw_sortdoors_k18_the_long_row_of_few) rfl rfl (fun w h Y => PySem.W.kIn_of Y) YL.law_true ?F
  case F =>
    intro w mg fa h KX G hmg
    refine' YL.all_mk KX G hmg ?aC_LongRow ?a0 ?l0 ?c0 ?k0 ?a1 ?l1 ?c1 ?k1 ?a2 ?l2 ?c2 ?k2 ?a3 ?l3 ?c3 ?k3 ?a4 ?l4 ?c4 ?k4 ?a5 ?l5 ?c5 ?k5 ?a6 ?l6 ?c6 ?k6 ?a7 ?l7 ?c7 ?k7 ?a8 ?l8 ?c8 ?k8 ?a9 ?i9 ?l9 ?c9 ?k9 ?a10 ?l10 ?c10 ?k10 ?a11 ?i11 ?l11 ?c11 ?k11 ?a12 ?i12 ?l12 ?c12 ?k12 ?a13 ?i13 ?l13 ?c13 ?k13 ?a14 ?l14 ?c14 ?k14 ?a15 ?i15 ?l15 ?c15 ?k15 ?a16 ?i16 ?l16 ?c16 ?k16 ?a17 ?i17 ?l17 ?c17 ?k17 ?a18 ?i18 ?l18 ?c18 ?k18 ?a19 ?l19 ?c19 ?k19 ?a20 ?l20 ?c20 ?k20 ?a21 ?l21 ?c21 ?k21 ?a22 ?l22 ?c22 ?k22 ?a23 ?l23 ?c23 ?k23 ?a24 ?l24 ?c24 ?k24 ?pg_LongRow ?hd_LongRow ?po_LongRow ?sa_LongRow ?mk_LongRow ?kc_LongRow ?n_LongRow_folk ?n_LongRow_half ?n_LongRow_spare ?n_LongRow_rounds ?n_LongRow_begin ?z_abs ?z_all ?z_bool ?z_enumerate ?z_int ?z_isinstance ?z_len ?z_list ?z_max ?z_min ?z_range ?z_repr ?z_sorted ?z_str ?z_tuple ?z_zip
    (case aC_LongRow => k_is)
    (case a0 => k_is)
    (case l0 => k_is)
    (case c0 => k_is)
    (case k0 => k_is)
    (case a1 => k_is)
    (case l1 => k_is)
    (case c1 => k_is)
    (case k1 => k_is)
    (case a2 => k_is)
    (case l2 => k_is)
    (case c2 => k_is)
    (case k2 => k_is)
    (case a3 => k_is)
    (case l3 => k_is)
    (case c3 => k_is)
    (case k3 => k_is)
    (case a4 => k_is)
    (case l4 => k_is)
    (case c4 => k_is)
    (case k4 => k_is)
    (case a5 => k_is)
    (case l5 => k_is)
    (case c5 => k_is)
    (case k5 => k_is)
    (case a6 => k_is)
    (case l6 => k_is)
    (case c6 => k_is)
    (case k6 => k_is)
    (case a7 => k_is)
    (case l7 => k_is)
    (case c7 => k_is)
    (case k7 => k_is)
    (case a8 => k_is)
    (case l8 => k_is)
    (case c8 => k_is)
    (case k8 => k_is)
    (case a9 => k_is)
    (case i9 => k_is)
    (case l9 => k_is)
    (case c9 => k_is)
    (case k9 => k_is)
    (case a10 => k_is)
    (case l10 => k_is)
    (case c10 => k_is)
    (case k10 => k_is)
    (case a11 => k_is)
    (case i11 => k_is)
    (case l11 => k_is)
    (case c11 => k_is)
    (case k11 => k_is)
    (case a12 => k_is)
    (case i12 => k_is)
    (case l12 => k_is)
    (case c12 => k_is)
    (case k12 => k_is)
    (case a13 => k_is)
    (case i13 => k_is)
    (case l13 => k_is)
    (case c13 => k_is)
    (case k13 => k_is)
    (case a14 => k_is)
    (case l14 => k_is)
    (case c14 => k_is)
    (case k14 => k_is)
    (case a15 => k_is)
    (case i15 => k_is)
    (case l15 => k_is)
    (case c15 => k_is)
    (case k15 => k_is)
    (case a16 => k_is)
    (case i16 => k_is)
    (case l16 => k_is)
    (case c16 => k_is)
    (case k16 => k_is)
    (case a17 => k_is)
    (case i17 => k_is)
    (case l17 => k_is)
    (case c17 => k_is)
    (case k17 => k_is)
    (case a18 => k_is)
    (case i18 => k_is)
    (case l18 => k_is)
    (case c18 => k_is)
    (case k18 => k_is)
    (case a19 => k_is)
    (case l19 => k_is)
    (case c19 => k_is)
    (case k19 => k_is)
    (case a20 => k_is)
    (case l20 => k_is)
    (case c20 => k_is)
    (case k20 => k_is)
    (case a21 => k_is)
    (case l21 => k_is)
    (case c21 => k_is)
    (case k21 => k_is)
    (case a22 => k_is)
    (case l22 => k_is)
    (case c22 => k_is)
    (case k22 => k_is)
    (case a23 => k_is)
    (case l23 => k_is)
    (case c23 => k_is)
    (case k23 => k_is)
    (case a24 => k_is)
    (case l24 => k_is)
    (case c24 => k_is)
    (case k24 => k_is)
    (case pg_LongRow => k_is)
    (case hd_LongRow => k_is)
    (case po_LongRow => k_is)
    (case sa_LongRow => k_is)
    (case mk_LongRow => k_is)
    (case kc_LongRow => k_is)
    (case n_LongRow_folk => k_is)
    (case n_LongRow_half => k_is)
    (case n_LongRow_spare => k_is)
    (case n_LongRow_rounds => k_is)
    (case n_LongRow_begin => k_is)
    (case z_abs => k_is)
    (case z_all => k_is)
    (case z_bool => k_is)
    (case z_enumerate => k_is)
    (case z_int => k_is)
    (case z_isinstance => k_is)
    (case z_len => k_is)
    (case z_list => k_is)
    (case z_max => k_is)
    (case z_min => k_is)
    (case z_range => k_is)
    (case z_repr => k_is)
    (case z_sorted => k_is)
    (case z_str => k_is)
    (case z_tuple => k_is)
    (case z_zip => k_is)
