import PyProof.Rows.All
import Wide.All
import OpenK.AllK
import Wide.FinOn
import HandS.ForMost
import HandS.ForExc
import HandS.Deep
import HandS.TupAny
import HandS.Wide
import HandS.Conv
import HandS.TupMul
import HandS.Flow
import HandS.Style
import HandS.Zip
import KE.GoesEnum
import HandS.IsInst
import HandS.More
import HandS.HeadHook4
import PyProof.Rows.RegFStrParts
import HandS.SortInts
import HandS.HeadEnd
import HandS.Head0
import HandS.Head1
import HandS.Head2
import PySem.Challenge.RW_castforms_k44_mixed_comparisons_by_tryin
set_option Elab.async false
set_option linter.all false
set_option maxRecDepth 100000
set_option maxHeartbeats 1000000
/-! Vi0: values, objects, stores of a plain interpreter; how they lie in the layer's heap. -/
namespace Vi
open PySem PySem.Spec PyProof.Rows L2

abbrev LV := L2.V
abbrev PD := PyData

/-- a value: plain data, an object of the store, a tuple that holds such, the script -/
inductive Va where
  | d (x : PD)
  | r (n : Nat)
  | t (xs : List Va)
  | s (ns : List Int)
/-- an object of the store -/
inductive Ob where
  | l (xs : List Va)
  | m (kvs : List (Key × Va))
  | i (C : Str) (fs : List (Str × Va))
structure Sto where
  obs : List (Option Ob)
  base : Nat
abbrev Sto.n (s : Sto) : Nat := s.obs.length
inductive Res (α : Type) where
  | ok (a : α) (s : Sto)
  | exn (c : Str) (x : Va) (s : Sto)
  | bad
def Res.bind {α β : Type} (r : Res α) (k : α → Sto → Res β) : Res β := match r with
  | .ok a s => k a s
  | .exn c x s => .exn c x s
  | .bad => .bad
abbrev Ev := List (Option Va)
abbrev SE := Ev → Sto → Res Va
abbrev SA := Ev → Sto → Res (List Va)
abbrev ST := Ev → Sto → Res Bool
/-- how a statement ends -/
inductive Out where
  | nx (e : Ev)
  | rt (v : Va)
  | bk (e : Ev)
  | ct (e : Ev)
  | ex (c : Str) (x : Va) (e : Ev)
abbrev SS := Ev → Sto → Res Out
abbrev FS := List Va → Sto → Res Va

mutual
def Va.lt (n : Nat) : Va → Bool
  | .d _ => true
  | .r i => decide (i < n)
  | .t xs => Va.ltL n xs
  | .s _ => true
def Va.ltL (n : Nat) : List Va → Bool
  | [] => true
  | x :: xs => Va.lt n x && Va.ltL n xs
end
def Ob.lt (n : Nat) : Ob → Bool
  | .l xs => xs.all (Va.lt n)
  | .m kvs => kvs.all fun p => Va.lt n p.2
  | .i _ fs => fs.all fun p => Va.lt n p.2

/-! ### data in the heap -/
mutual
inductive RepD (K : PySem.W.Frag) (G : Hp) : PD → LV → Prop
  | non : RepD K G .none .non
  | bl (b : Bool) : RepD K G (.bool b) (.bl b)
  | int (i : Int) : RepD K G (.int i) (.int i)
  | str (x : Str) : RepD K G (.str x) (.str x)
  | lst {a : Addr} {xs : List LV} {ds : List PD} : G a = some (.lst xs) → RepDs K G ds xs → RepD K G (.list ds) (.ref a)
  | tup {a : Addr} {xs : List LV} {ds : List PD} : SqT K G a xs → RepDs K G ds xs → RepD K G (.tuple ds) (.ref a)
  | dct {a : Addr} {kxs : List (Key × LV)} {kvs : List (PD × PD)} : G a = some (.dK kxs) → RepKs K G kvs kxs → RepD K G (.dict kvs) (.ref a)
inductive RepDs (K : PySem.W.Frag) (G : Hp) : List PD → List LV → Prop
  | nil : RepDs K G [] []
  | cons {d : PD} {v : LV} {ds : List PD} {vs : List LV} : RepD K G d v → RepDs K G ds vs → RepDs K G (d :: ds) (v :: vs)
inductive RepKs (K : PySem.W.Frag) (G : Hp) : List (PD × PD) → List (Key × LV) → Prop
  | nil : RepKs K G [] []
  | ci {i : Int} {d : PD} {v : LV} {r : List (PD × PD)} {rs : List (Key × LV)} : RepD K G d v → RepKs K G r rs → RepKs K G ((.int i, d) :: r) ((.inl i, v) :: rs)
  | cs {z : Str} {d : PD} {v : LV} {r : List (PD × PD)} {rs : List (Key × LV)} : RepD K G d v → RepKs K G r rs → RepKs K G ((.str z, d) :: r) ((.inr z, v) :: rs)
end
theorem sqL_mono {K : PySem.W.Frag} {G G' : Hp} (h : Same G G') {a : Addr} {xs : List LV} (e : SqL K G a xs) : SqL K G' a xs := h.seq e
theorem sqT_mono {K : PySem.W.Frag} {G G' : Hp} (h : Same G G') {a : Addr} {xs : List LV} (e : SqT K G a xs) : SqT K G' a xs := by
  rcases e with (e | ⟨o, e⟩) | e
  · exact .inl (.inl (h _ _ e))
  · exact .inl (.inr ⟨o, h _ _ e⟩)
  · exact .inr e
mutual
theorem RepD.mono {K : PySem.W.Frag} {G G' : Hp} (h : Same G G') : ∀ {d : PD} {v : LV}, RepD K G d v → RepD K G' d v
  | _, _, .non => .non
  | _, _, .bl b => .bl b
  | _, _, .int i => .int i
  | _, _, .str x => .str x
  | _, _, .lst s r => .lst (h _ _ s) (RepDs.mono h r)
  | _, _, .tup s r => .tup (sqT_mono h s) (RepDs.mono h r)
  | _, _, .dct s r => .dct (h _ _ s) (RepKs.mono h r)
theorem RepDs.mono {K : PySem.W.Frag} {G G' : Hp} (h : Same G G') : ∀ {d : List PD} {v : List LV}, RepDs K G d v → RepDs K G' d v
  | _, _, .nil => .nil
  | _, _, .cons a b => .cons (RepD.mono h a) (RepDs.mono h b)
theorem RepKs.mono {K : PySem.W.Frag} {G G' : Hp} (h : Same G G') : ∀ {d : List (PD × PD)} {v : List (Key × LV)}, RepKs K G d v → RepKs K G' d v
  | _, _, .nil => .nil
  | _, _, .ci a b => .ci (RepD.mono h a) (RepKs.mono h b)
  | _, _, .cs a b => .cs (RepD.mono h a) (RepKs.mono h b)
end
theorem RepDs.length {K : PySem.W.Frag} {G : Hp} : ∀ {d : List PD} {v : List LV}, RepDs K G d v → d.length = v.length
  | _, _, .nil => rfl
  | _, _, .cons _ b => by simp [RepDs.length b]
theorem RepDs.get {K : PySem.W.Frag} {G : Hp} : ∀ {d : List PD} {v : List LV} {i : Nat} {x : PD}, RepDs K G d v → d[i]? = some x → ∃ y, v[i]? = some y ∧ RepD K G x y
  | _, _, _, _, .nil, e => by simp at e
  | _, _, 0, _, .cons r _, e => by simp at e; subst e; exact ⟨_, rfl, r⟩
  | _, _, i + 1, x, .cons _ b, e => by
    obtain ⟨y, h1, h2⟩ := RepDs.get (i := i) b (by simpa using e)
    exact ⟨y, by simpa using h1, h2⟩
theorem RepDs.append {K : PySem.W.Frag} {G : Hp} : ∀ {d e : List PD} {v u : List LV}, RepDs K G d v → RepDs K G e u → RepDs K G (d ++ e) (v ++ u)
  | _, _, _, _, .nil, s => s
  | _, _, _, _, .cons r t, s => .cons r (RepDs.append t s)
theorem RepDs.take {K : PySem.W.Frag} {G : Hp} : ∀ {d : List PD} {v : List LV} (n : Nat), RepDs K G d v → RepDs K G (d.take n) (v.take n)
  | _, _, 0, _ => by simpa using RepDs.nil
  | _, _, _ + 1, .nil => by simpa using RepDs.nil
  | _, _, n + 1, .cons r t => by simpa using RepDs.cons r (RepDs.take n t)
theorem RepDs.drop {K : PySem.W.Frag} {G : Hp} : ∀ {d : List PD} {v : List LV} (n : Nat), RepDs K G d v → RepDs K G (d.drop n) (v.drop n)
  | _, _, 0, r => by simpa using r
  | _, _, _ + 1, .nil => by simpa using RepDs.nil
  | _, _, n + 1, .cons _ t => by simpa using RepDs.drop n t

/-! ### values in the heap -/
mutual
inductive RepV (K : PySem.W.Frag) (φ : Nat → Addr) (n : Nat) (G : Hp) : Va → LV → Prop
  | d {x : PD} {v : LV} : RepD K G x v → RepV K φ n G (.d x) v
  | r {i : Nat} : i < n → RepV K φ n G (.r i) (.ref (φ i))
  | t {a : Addr} {xs : List Va} {ys : List LV} : SqT K G a ys → RepVs K φ n G xs ys → RepV K φ n G (.t xs) (.ref a)
  | s {a : Addr} {ns : List Int} : SqL K G a (ns.map V.int) → RepV K φ n G (.s ns) (.ref a)
inductive RepVs (K : PySem.W.Frag) (φ : Nat → Addr) (n : Nat) (G : Hp) : List Va → List LV → Prop
  | nil : RepVs K φ n G [] []
  | cons {x : Va} {v : LV} {xs : List Va} {vs : List LV} : RepV K φ n G x v → RepVs K φ n G xs vs → RepVs K φ n G (x :: xs) (v :: vs)
end
mutual
theorem RepV.mono {K : PySem.W.Frag} {φ φ' : Nat → Addr} {n n' : Nat} {G G' : Hp} (hn : n ≤ n') (hφ : ∀ i, i < n → φ' i = φ i) (h : Same G G') : ∀ {x : Va} {v : LV}, RepV K φ n G x v → RepV K φ' n' G' x v
  | _, _, .d r => .d (r.mono h)
  | _, _, @RepV.r _ _ _ _ i e => by
    rw [← hφ i e]
    exact .r (Nat.lt_of_lt_of_le e hn)
  | _, _, .t s r => .t (sqT_mono h s) (RepVs.mono hn hφ h r)
  | _, _, .s s => .s (sqL_mono h s)
theorem RepVs.mono {K : PySem.W.Frag} {φ φ' : Nat → Addr} {n n' : Nat} {G G' : Hp} (hn : n ≤ n') (hφ : ∀ i, i < n → φ' i = φ i) (h : Same G G') : ∀ {x : List Va} {v : List LV}, RepVs K φ n G x v → RepVs K φ' n' G' x v
  | _, _, .nil => .nil
  | _, _, .cons a b => .cons (RepV.mono hn hφ h a) (RepVs.mono hn hφ h b)
end
mutual
/-- a value that names old objects alone -/
theorem RepV.cut {K : PySem.W.Frag} {φ : Nat → Addr} {n m : Nat} {G : Hp} : ∀ {x : Va} {v : LV}, RepV K φ n G x v → x.lt m = true → RepV K φ m G x v
  | _, _, .d r, _ => .d r
  | _, _, .r _, e => .r (of_decide_eq_true (by simpa [Va.lt] using e))
  | _, _, .t s r, e => .t s (RepVs.cut r (by simpa [Va.lt] using e))
  | _, _, .s s, _ => .s s
theorem RepVs.cut {K : PySem.W.Frag} {φ : Nat → Addr} {n m : Nat} {G : Hp} : ∀ {x : List Va} {v : List LV}, RepVs K φ n G x v → Va.ltL m x = true → RepVs K φ m G x v
  | _, _, .nil, _ => .nil
  | x :: xs, _, .cons a b, e => by
    have e : (Va.lt m x && Va.ltL m xs) = true := e
    obtain ⟨e1, e2⟩ := Bool.and_eq_true_iff.mp e
    exact .cons (RepV.cut a e1) (RepVs.cut b e2)
end
theorem ltL_all (n : Nat) : ∀ xs : List Va, Va.ltL n xs = xs.all (Va.lt n)
  | [] => rfl
  | x :: xs => by show (Va.lt n x && Va.ltL n xs) = _; rw [ltL_all n xs]; rfl
section
variable {K : PySem.W.Frag} {φ : Nat → Addr} {n : Nat} {G : Hp}
theorem RepVs.length : ∀ {d : List Va} {v : List LV}, RepVs K φ n G d v → d.length = v.length
  | _, _, .nil => rfl
  | _, _, .cons _ b => by simp [RepVs.length b]
theorem RepVs.get : ∀ {d : List Va} {v : List LV} {i : Nat} {x : Va}, RepVs K φ n G d v → d[i]? = some x → ∃ y, v[i]? = some y ∧ RepV K φ n G x y
  | _, _, _, _, .nil, e => by simp at e
  | _, _, 0, _, .cons r _, e => by simp at e; subst e; exact ⟨_, rfl, r⟩
  | _, _, i + 1, x, .cons _ b, e => by
    obtain ⟨y, h1, h2⟩ := RepVs.get (i := i) b (by simpa using e)
    exact ⟨y, by simpa using h1, h2⟩
theorem RepVs.append : ∀ {d e : List Va} {v u : List LV}, RepVs K φ n G d v → RepVs K φ n G e u → RepVs K φ n G (d ++ e) (v ++ u)
  | _, _, _, _, .nil, s => s
  | _, _, _, _, .cons r t, s => .cons r (RepVs.append t s)
theorem RepVs.take : ∀ {d : List Va} {v : List LV} (k : Nat), RepVs K φ n G d v → RepVs K φ n G (d.take k) (v.take k)
  | _, _, 0, _ => by simpa using RepVs.nil
  | _, _, _ + 1, .nil => by simpa using RepVs.nil
  | _, _, k + 1, .cons r t => by simpa using RepVs.cons r (RepVs.take k t)
theorem RepVs.drop : ∀ {d : List Va} {v : List LV} (k : Nat), RepVs K φ n G d v → RepVs K φ n G (d.drop k) (v.drop k)
  | _, _, 0, r => by simpa using r
  | _, _, _ + 1, .nil => by simpa using RepVs.nil
  | _, _, k + 1, .cons _ t => by simpa using RepVs.drop k t
theorem RepVs.set {x : Va} {y : LV} (r : RepV K φ n G x y) : ∀ {d : List Va} {v : List LV} (i : Nat), RepVs K φ n G d v → RepVs K φ n G (d.set i x) (v.set i y)
  | _, _, _, .nil => .nil
  | _, _, 0, .cons _ t => .cons r t
  | _, _, i + 1, .cons q t => .cons q (RepVs.set r i t)
theorem RepVs.erase : ∀ {d : List Va} {v : List LV} (i : Nat), RepVs K φ n G d v → RepVs K φ n G (d.eraseIdx i) (v.eraseIdx i)
  | _, _, _, .nil => by simpa using RepVs.nil
  | _, _, 0, .cons _ t => by simpa using t
  | _, _, i + 1, .cons q t => by simpa using RepVs.cons q (RepVs.erase i t)
theorem RepVs.of_data : ∀ {ds : List PD} {v : List LV}, RepDs K G ds v → RepVs K φ n G (ds.map Va.d) v
  | _, _, .nil => .nil
  | _, _, .cons a b => .cons (.d a) (RepVs.of_data b)
end

/-- all plain -/
def allD : List Va → Option (List PD)
  | [] => some []
  | .d x :: r => (allD r).map (x :: ·)
  | _ :: _ => none
theorem allD_map : ∀ ds : List PD, allD (ds.map Va.d) = some ds
  | [] => rfl
  | d :: ds => by show (allD (ds.map Va.d)).map _ = _; rw [allD_map ds]; rfl
theorem allD_rep {K : PySem.W.Frag} {φ : Nat → Addr} {n : Nat} {G : Hp} : ∀ {xs : List Va} {ds : List PD} {v : List LV}, allD xs = some ds → RepVs K φ n G xs v → RepDs K G ds v
  | [], _, _, e, .nil => by
    cases e
    exact .nil
  | .d x :: r, ds, _, e, .cons (.d a) b => by
    cases q : allD r with
    | none => simp [allD, q] at e
    | some es =>
      simp only [allD, q, Option.map_some, Option.some.injEq] at e
      subst e
      exact .cons a (allD_rep q b)
  | .r _ :: _, _, _, e, _ => by cases e
  | .t _ :: _, _, _, e, _ => by cases e
  | .s _ :: _, _, _, e, _ => by cases e
theorem allD_eq : ∀ {xs : List Va} {ds : List PD}, allD xs = some ds → xs = ds.map Va.d
  | [], _, e => by
    cases e
    rfl
  | .d x :: r, ds, e => by
    cases q : allD r with
    | none => simp [allD, q] at e
    | some es =>
      simp only [allD, q, Option.map_some, Option.some.injEq] at e
      subst e
      rw [allD_eq q]
      rfl
  | .r _ :: _, _, e => by cases e
  | .t _ :: _, _, e => by cases e
  | .s _ :: _, _, e => by cases e
/-- a tuple of values -/
def mkT (xs : List Va) : Va := match allD xs with
  | some ds => .d (.tuple ds)
  | none => .t xs
theorem mkT_rep {K : PySem.W.Frag} {φ : Nat → Addr} {n : Nat} {G : Hp} {xs : List Va} {v : List LV} {a : Addr} (s : SqT K G a v) (r : RepVs K φ n G xs v) : RepV K φ n G (mkT xs) (.ref a) := by
  unfold mkT
  cases q : allD xs with
  | none => exact .t s r
  | some ds => exact .d (.tup s (allD_rep q r))

/-! ### the store in the heap -/
abbrev cadr (K : PySem.W.Frag) (x : Str) : Addr := match PySem.W.nsIn K mainGlobals x with
  | some (some (.ref a)) => a
  | _ => 0
inductive RepKV (K : PySem.W.Frag) (φ : Nat → Addr) (n : Nat) (G : Hp) : {κ : Type} → List (κ × Va) → List (κ × LV) → Prop
  | nil {κ : Type} : RepKV K φ n G (κ := κ) [] []
  | cons {κ : Type} {k : κ} {x : Va} {v : LV} {r : List (κ × Va)} {rs : List (κ × LV)} : RepV K φ n G x v → RepKV K φ n G r rs → RepKV K φ n G ((k, x) :: r) ((k, v) :: rs)
theorem RepKV.mono {K : PySem.W.Frag} {φ φ' : Nat → Addr} {n n' : Nat} {G G' : Hp} (hn : n ≤ n') (hφ : ∀ i, i < n → φ' i = φ i) (h : Same G G') {κ : Type} : ∀ {x : List (κ × Va)} {v : List (κ × LV)}, RepKV K φ n G x v → RepKV K φ' n' G' x v
  | _, _, .nil => .nil
  | _, _, .cons a b => .cons (a.mono hn hφ h) (RepKV.mono hn hφ h b)
theorem RepKV.cut {K : PySem.W.Frag} {φ : Nat → Addr} {n m : Nat} {G : Hp} {κ : Type} : ∀ {x : List (κ × Va)} {v : List (κ × LV)}, RepKV K φ n G x v → (x.all fun p => p.2.lt m) = true → RepKV K φ m G x v
  | _, _, .nil, _ => .nil
  | _, _, .cons a b, e => by
    rw [List.all_cons] at e
    obtain ⟨e1, e2⟩ := Bool.and_eq_true_iff.mp e
    exact .cons (a.cut e1) (RepKV.cut b e2)
inductive RepO (K : PySem.W.Frag) (φ : Nat → Addr) (n : Nat) (G : Hp) : Ob → HO → Prop
  | l {xs : List Va} {ys : List LV} : RepVs K φ n G xs ys → RepO K φ n G (.l xs) (.lst ys)
  | m {kvs : List (Key × Va)} {kxs : List (Key × LV)} : RepKV K φ n G kvs kxs → RepO K φ n G (.m kvs) (.dK kxs)
  | i {C : Str} {dx : Addr} {fs : List (Str × Va)} {gs : List (Str × LV)} : RepKV K φ n G fs gs → RepO K φ n G (.i C fs) (.ins (cadr K C) dx gs)
theorem RepO.mono {K : PySem.W.Frag} {φ φ' : Nat → Addr} {n n' : Nat} {G G' : Hp} (hn : n ≤ n') (hφ : ∀ i, i < n → φ' i = φ i) (h : Same G G') {o : Ob} {ho : HO} (r : RepO K φ n G o ho) : RepO K φ' n' G' o ho := by
  cases r with
  | l r => exact .l (r.mono hn hφ h)
  | m r => exact .m (r.mono hn hφ h)
  | i r => exact .i (r.mono hn hφ h)
theorem RepO.cut {K : PySem.W.Frag} {φ : Nat → Addr} {n m : Nat} {G : Hp} {o : Ob} {ho : HO} (r : RepO K φ n G o ho) (e : o.lt m = true) : RepO K φ m G o ho := by
  cases r with
  | l r => exact .l (r.cut (by rw [ltL_all]; exact e))
  | m r => exact .m (r.cut e)
  | i r => exact .i (r.cut e)
structure SimS (K : PySem.W.Frag) (φ : Nat → Addr) (G : Hp) (Bs : List Nat) (st : Sto) (H : Hp) : Prop where
  sub : Same G H
  ob : ∀ i o, st.obs[i]? = some (some o) → G (φ i) = none ∧ ∃ ho, H (φ i) = some ho ∧ RepO K φ st.n G o ho
  inj : ∀ i j oi oj, st.obs[i]? = some (some oi) → st.obs[j]? = some (some oj) → φ i = φ j → i = j
  bs : ∀ b ∈ Bs, b ≤ st.base ∧ ∀ i, i < b → ∀ o, st.obs[i]? = some (some o) → o.lt b = true
  bl : st.base ≤ st.n
structure Ext (φ : Nat → Addr) (G : Hp) (n : Nat) (φ' : Nat → Addr) (G' : Hp) : Prop where
  fi : ∀ i, i < n → φ' i = φ i
  gr : Same G G'
theorem Ext.refl {φ : Nat → Addr} {G : Hp} {n : Nat} : Ext φ G n φ G := ⟨fun _ _ => rfl, Same.refl G⟩
theorem Ext.trans {φ φ' φ'' : Nat → Addr} {G G' G'' : Hp} {n n' : Nat} (a : Ext φ G n φ' G') (hn : n ≤ n') (b : Ext φ' G' n' φ'' G'') : Ext φ G n φ'' G'' :=
  ⟨fun i h => (b.fi i (Nat.lt_of_lt_of_le h hn)).trans (a.fi i h), a.gr.trans b.gr⟩
theorem RepV.ext {K : PySem.W.Frag} {φ φ' : Nat → Addr} {n n' : Nat} {G G' : Hp} {x : Va} {v : LV} (r : RepV K φ n G x v) (e : Ext φ G n φ' G') (hn : n ≤ n') : RepV K φ' n' G' x v := r.mono hn e.fi e.gr
theorem RepVs.ext {K : PySem.W.Frag} {φ φ' : Nat → Addr} {n n' : Nat} {G G' : Hp} {x : List Va} {v : List LV} (r : RepVs K φ n G x v) (e : Ext φ G n φ' G') (hn : n ≤ n') : RepVs K φ' n' G' x v := r.mono hn e.fi e.gr
/-- the names' values -/
def EnvR (K : PySem.W.Frag) (φ : Nat → Addr) (n : Nat) (G : Hp) (env : Ev) (σ : L2.St) : Prop :=
  env.length = σ.length ∧ ∀ (i : Nat) (v : Va), env[i]? = some (some v) → ∃ lv : LV, σ[i]? = some (some lv) ∧ RepV K φ n G v lv
theorem EnvR.ext {K : PySem.W.Frag} {φ φ' : Nat → Addr} {n n' : Nat} {G G' : Hp} {env : Ev} {σ : L2.St} (r : EnvR K φ n G env σ) (e : Ext φ G n φ' G') (hn : n ≤ n') : EnvR K φ' n' G' env σ :=
  ⟨r.1, fun i v h => let ⟨lv, a, b⟩ := r.2 i v h; ⟨lv, a, b.ext e hn⟩⟩
theorem EnvR.set {K : PySem.W.Frag} {φ : Nat → Addr} {n : Nat} {G : Hp} {env : Ev} {σ : L2.St} {v : Va} {lv : LV} (r : EnvR K φ n G env σ) (i : Nat) (h : RepV K φ n G v lv) : EnvR K φ n G (env.set i (some v)) (σ.set i (some lv)) := by
  refine ⟨by rw [List.length_set, List.length_set]; exact r.1, fun j w hj => ?_⟩
  by_cases e : i = j
  · subst e
    by_cases hi : i < env.length
    · rw [List.getElem?_set_self hi] at hj
      cases hj
      exact ⟨lv, List.getElem?_set_self (by rw [← r.1]; exact hi), h⟩
    · rw [List.getElem?_eq_none (by rw [List.length_set]; omega)] at hj
      cases hj
  · rw [List.getElem?_set_ne e] at hj
    rw [List.getElem?_set_ne e]
    exact r.2 j w hj

section
variable {K : PySem.W.Frag} {φ : Nat → Addr} {G : Hp} {Bs : List Nat} {st : Sto} {H : Hp}
theorem SimS.off (S : SimS K φ G Bs st H) {p : Addr} (hp : H p = none) {i : Nat} {o : Ob} (e : st.obs[i]? = some (some o)) : φ i ≠ p := by
  obtain ⟨_, ho, h, _⟩ := S.ob i o e
  exact ne_of_none h hp
theorem SimS.gnone (S : SimS K φ G Bs st H) {p : Addr} (hp : H p = none) : G p = none := by
  cases q : G p with
  | none => rfl
  | some o =>
    rw [S.sub p o q] at hp
    cases hp
theorem same_up {G : Hp} {p : Addr} {o : HO} (h : G p = none) : Same G (upd G p o) := fun b x e => by
  rw [upd_ne (ne_of_none e h)]
  exact e
/-- a new object that nobody writes -/
theorem SimS.laid (S : SimS K φ G Bs st H) {p : Addr} {o : HO} (hp : H p = none) : SimS K φ (upd G p o) Bs st (upd H p o) := by
  have gp := S.gnone hp
  refine ⟨fun b x e => ?_, fun i ob e => ?_, S.inj, S.bs, S.bl⟩
  · by_cases hb : b = p
    · subst hb
      rw [upd_same] at e ⊢
      exact e
    · rw [upd_ne hb] at e ⊢
      exact S.sub b x e
  · obtain ⟨g, ho, h1, h2⟩ := S.ob i ob e
    have ne := S.off hp e
    rw [upd_ne ne, upd_ne ne]
    exact ⟨g, ho, h1, h2.mono (Nat.le_refl _) (fun _ _ => rfl) (same_up gp)⟩
/-- an object that nobody tells of -/
theorem SimS.hid (S : SimS K φ G Bs st H) {p : Addr} {o : HO} (hp : H p = none) : SimS K φ G Bs st (upd H p o) := by
  have gp := S.gnone hp
  refine ⟨fun b x e => ?_, fun i ob e => ?_, S.inj, S.bs, S.bl⟩
  · rw [upd_ne (ne_of_none e gp)]
    exact S.sub b x e
  · obtain ⟨g, ho, h1, h2⟩ := S.ob i ob e
    rw [upd_ne (S.off hp e)]
    exact ⟨g, ho, h1, h2⟩
/-- .. and its later life -/
theorem SimS.hid2 (S : SimS K φ G Bs st H) {p : Addr} {o : HO} (hg : G p = none) (hf : ∀ i ob, st.obs[i]? = some (some ob) → φ i ≠ p) : SimS K φ G Bs st (upd H p o) := by
  refine ⟨fun b x e => ?_, fun i ob e => ?_, S.inj, S.bs, S.bl⟩
  · rw [upd_ne (ne_of_none e hg)]
    exact S.sub b x e
  · obtain ⟨g, ho, h1, h2⟩ := S.ob i ob e
    rw [upd_ne (hf i ob e)]
    exact ⟨g, ho, h1, h2⟩
/-- such an object is taken among the frozen -/
theorem SimS.take (S : SimS K φ G Bs st H) {p : Addr} {o : HO} (hp : H p = some o) (hf : ∀ i ob, st.obs[i]? = some (some ob) → φ i ≠ p) : SimS K φ (upd G p o) Bs st H ∧ (G p = none → Same G (upd G p o)) := by
  refine ⟨?_, same_up⟩
  by_cases gp : G p = none
  · refine ⟨fun b x e => ?_, fun i ob e => ?_, S.inj, S.bs, S.bl⟩
    · by_cases hb : b = p
      · subst hb
        rw [upd_same] at e
        rw [← e]
        exact hp
      · rw [upd_ne hb] at e
        exact S.sub b x e
    · obtain ⟨g, ho, h1, h2⟩ := S.ob i ob e
      rw [upd_ne (hf i ob e)]
      exact ⟨g, ho, h1, h2.mono (Nat.le_refl _) (fun _ _ => rfl) (same_up gp)⟩
  · have : upd G p o = G := by
      funext b
      by_cases hb : b = p
      · subst hb
        rw [upd_same]
        cases q : G b with
        | none => exact absurd q gp
        | some u =>
          have := S.sub b u q
          rw [hp] at this
          exact this
      · rw [upd_ne hb]
    rw [this]
    exact S
def putφ (φ : Nat → Addr) (n : Nat) (p : Addr) : Nat → Addr := fun i => if i = n then p else φ i
theorem putφ_same {n : Nat} {p : Addr} : putφ φ n p n = p := if_pos rfl
theorem putφ_ne {n i : Nat} {p : Addr} (h : i ≠ n) : putφ φ n p i = φ i := if_neg h
theorem putφ_lt {n : Nat} {p : Addr} : ∀ i, i < n → putφ φ n p i = φ i := fun i h => putφ_ne (Nat.ne_of_lt h)
abbrev Sto.push (st : Sto) (o : Ob) : Sto := ⟨st.obs ++ [some o], st.base⟩
/-- a new object of the store -/
theorem SimS.made (S : SimS K φ G Bs st H) {p : Addr} {o : Ob} {ho : HO} {H' : Hp} (hp : H p = none) (hs : ∀ b, b ≠ p → H b ≠ none → H' b = H b) (hh : H' p = some ho) (r : RepO K φ st.n G o ho) : SimS K (putφ φ st.n p) G Bs (st.push o) H' := by
  have hl : (st.push o).n = st.n + 1 := by show (st.obs ++ [some o]).length = _; rw [List.length_append]; rfl
  have get : ∀ i ob, (st.push o).obs[i]? = some (some ob) → (i < st.n ∧ st.obs[i]? = some (some ob)) ∨ (i = st.n ∧ ob = o) := fun i ob e => by
    have e : (st.obs ++ [some o])[i]? = some (some ob) := e
    by_cases hi : i < st.obs.length
    · rw [List.getElem?_append_left hi] at e
      exact .inl ⟨hi, e⟩
    · rw [List.getElem?_append_right (by omega)] at e
      by_cases h0 : i - st.obs.length = 0
      · rw [h0] at e
        have e2 : some o = some ob := Option.some.inj e
        exact .inr ⟨by show i = st.obs.length; omega, (Option.some.inj e2).symm⟩
      · rw [List.getElem?_eq_none (by simp; omega)] at e
        cases e
  have mono : ∀ {ob : Ob} {hb : HO}, RepO K φ st.n G ob hb → RepO K (putφ φ st.n p) (st.push o).n G ob hb := fun q => q.mono (by rw [hl]; omega) putφ_lt (Same.refl G)
  refine ⟨fun b x e => ?_, fun i ob e => ?_, fun i j oi oj e1 e2 eq => ?_, fun b hb => ⟨(S.bs b hb).1, fun i hi ob e => ?_⟩, ?_⟩
  · have h1 := S.sub b x e
    have h2 : b ≠ p := ne_of_none h1 hp
    rw [hs b h2 (by rw [h1]; simp)]
    exact h1
  · rcases get i ob e with ⟨hi, e⟩ | ⟨rfl, rfl⟩
    · obtain ⟨g, hb, h1, h2⟩ := S.ob i ob e
      rw [putφ_lt i hi]
      exact ⟨g, hb, (hs _ (S.off hp e) (by rw [h1]; simp)).trans h1, mono h2⟩
    · rw [putφ_same]
      exact ⟨S.gnone hp, ho, hh, mono r⟩
  · rcases get i oi e1 with ⟨hi, e1'⟩ | ⟨hi, _⟩ <;> rcases get j oj e2 with ⟨hj, e2'⟩ | ⟨hj, _⟩
    · rw [putφ_lt i hi, putφ_lt j hj] at eq
      exact S.inj i j oi oj e1' e2' eq
    · rw [putφ_lt i hi, hj, putφ_same] at eq
      exact absurd eq (S.off hp e1')
    · rw [hi, putφ_same, putφ_lt j hj] at eq
      exact absurd eq.symm (S.off hp e2')
    · rw [hi, hj]
  · rcases get i ob e with ⟨_, e⟩ | ⟨rfl, rfl⟩
    · exact (S.bs b hb).2 i hi ob e
    · have := (S.bs b hb).1
      have := S.bl
      omega
  · have := S.bl
    show st.base ≤ (st.push o).n
    rw [hl]
    omega
abbrev Sto.put (st : Sto) (i : Nat) (o : Ob) : Sto := ⟨st.obs.set i (some o), st.base⟩
abbrev Sto.kill (st : Sto) (i : Nat) : Sto := ⟨st.obs.set i none, st.base⟩
theorem get_set {α : Type} {xs : List α} {i j : Nat} {x y : α} (h : (xs.set i x)[j]? = some y) : (i = j ∧ y = x) ∨ (i ≠ j ∧ xs[j]? = some y) := by
  by_cases e : i = j
  · subst e
    by_cases hi : i < xs.length
    · rw [List.getElem?_set_self hi] at h
      exact .inl ⟨rfl, (Option.some.inj h).symm⟩
    · rw [List.getElem?_eq_none (by rw [List.length_set]; omega)] at h
      cases h
  · rw [List.getElem?_set_ne e] at h
    exact .inr ⟨e, h⟩
/-- an object of the store is written -/
theorem SimS.put (S : SimS K φ G Bs st H) {i : Nat} {o o' : Ob} {ho : HO} (e : st.obs[i]? = some (some o)) (r : RepO K φ st.n G o' ho) (hb : ∀ b, b ∈ Bs → i < b → o'.lt b = true) : SimS K φ G Bs (st.put i o') (upd H (φ i) ho) := by
  obtain ⟨gi, h0, hi, _⟩ := S.ob i o e
  have hl : (st.put i o').n = st.n := List.length_set
  refine ⟨fun b x q => ?_, fun j ob q => ?_, fun j k oj ok q1 q2 eq => ?_, fun b hbs => ⟨(S.bs b hbs).1, fun j hj ob q => ?_⟩, by rw [hl]; exact S.bl⟩
  · rw [upd_ne (ne_of_none q gi)]
    exact S.sub b x q
  · rcases get_set q with ⟨rfl, qq⟩ | ⟨ne, q⟩
    · have qq := Option.some.inj qq
      subst qq
      exact ⟨gi, ho, upd_same, by rw [hl]; exact r⟩
    · obtain ⟨g, hb, h1, h2⟩ := S.ob j ob q
      have : φ j ≠ φ i := fun z => ne (S.inj j i ob o q e z).symm
      rw [upd_ne this, hl]
      exact ⟨g, hb, h1, h2⟩
  · have un : ∀ {j oj}, (st.put i o').obs[j]? = some (some oj) → ∃ oj', st.obs[j]? = some (some oj') := fun {j oj} q => by
      rcases get_set q with ⟨rfl, _⟩ | ⟨_, q⟩
      · exact ⟨o, e⟩
      · exact ⟨oj, q⟩
    obtain ⟨oj', q1⟩ := un q1
    obtain ⟨ok', q2⟩ := un q2
    exact S.inj j k _ _ q1 q2 eq
  · rcases get_set q with ⟨rfl, qq⟩ | ⟨ne, q⟩
    · have qq := Option.some.inj qq
      subst qq
      exact hb b hbs hj
    · exact (S.bs b hbs).2 j hj ob q
/-- an object of the store is forgotten -/
theorem SimS.kill (S : SimS K φ G Bs st H) (i : Nat) : SimS K φ G Bs (st.kill i) H := by
  have hl : (st.kill i).n = st.n := List.length_set
  have un : ∀ {j oj}, (st.kill i).obs[j]? = some (some oj) → st.obs[j]? = some (some oj) := fun {j oj} q => by
    rcases get_set q with ⟨_, q⟩ | ⟨_, q⟩
    · cases q
    · exact q
  refine ⟨S.sub, fun j ob q => ?_, fun j k oj ok q1 q2 eq => S.inj j k _ _ (un q1) (un q2) eq, fun b hbs => ⟨(S.bs b hbs).1, fun j hj ob q => (S.bs b hbs).2 j hj ob (un q)⟩, by rw [hl]; exact S.bl⟩
  rw [hl]
  exact S.ob j ob (un q)
/-- a def is entered: its objects are those from here on -/
theorem SimS.enter (S : SimS K φ G Bs st H) (wf : ∀ (i : Nat) (o : Ob), st.obs[i]? = some (some o) → o.lt st.n = true) : SimS K φ G (st.n :: Bs) ⟨st.obs, st.n⟩ H :=
  ⟨S.sub, S.ob, S.inj, fun b hb => (List.mem_cons.mp hb).elim (fun e => by subst e; exact ⟨Nat.le_refl _, fun i _ o q => wf i o q⟩) fun hb => ⟨Nat.le_trans (S.bs b hb).1 S.bl, (S.bs b hb).2⟩, Nat.le_refl _⟩
mutual
theorem RepV.under {n : Nat} : ∀ {x : Va} {v : LV}, RepV K φ n G x v → x.lt n = true
  | _, _, .d _ => rfl
  | _, _, .r e => decide_eq_true e
  | _, _, .t _ r => by show Va.ltL n _ = true; exact RepVs.under r
  | _, _, .s _ => rfl
theorem RepVs.under {n : Nat} : ∀ {x : List Va} {v : List LV}, RepVs K φ n G x v → Va.ltL n x = true
  | _, _, .nil => rfl
  | _, _, .cons a b => by show (Va.lt n _ && Va.ltL n _) = true; rw [RepV.under a, RepVs.under b]; rfl
end
theorem RepKV.under {n : Nat} {κ : Type} : ∀ {x : List (κ × Va)} {v : List (κ × LV)}, RepKV K φ n G x v → (x.all fun p => p.2.lt n) = true
  | _, _, .nil => rfl
  | _, _, .cons a b => by rw [List.all_cons, a.under, RepKV.under b]; rfl
theorem RepO.under {n : Nat} {o : Ob} {ho : HO} (r : RepO K φ n G o ho) : o.lt n = true := by
  cases r with
  | l r => show List.all _ _ = true; rw [← ltL_all]; exact r.under
  | m r => exact r.under
  | i r => exact r.under
theorem SimS.wf (S : SimS K φ G Bs st H) : ∀ (i : Nat) (o : Ob), st.obs[i]? = some (some o) → o.lt st.n = true := fun i o e => let ⟨_, _, _, r⟩ := S.ob i o e; r.under
/-- a def is left: its objects are forgotten -/
theorem SimS.leave {n b0 : Nat} (S : SimS K φ G (n :: Bs) st H) (hn : n ≤ st.n) (hb : b0 ≤ n) (hB : ∀ b ∈ Bs, b ≤ b0) : SimS K φ G Bs ⟨st.obs.take n, b0⟩ H := by
  have hl : (st.obs.take n).length = n := by rw [List.length_take]; exact Nat.min_eq_left hn
  have un : ∀ {j oj}, (st.obs.take n)[j]? = some (some oj) → j < n ∧ st.obs[j]? = some (some oj) := fun {j oj} q => by
    by_cases hj : j < n
    · rw [List.getElem?_take_of_lt hj] at q
      exact ⟨hj, q⟩
    · rw [List.getElem?_eq_none (by rw [hl]; omega)] at q
      cases q
  refine ⟨S.sub, fun j ob q => ?_, fun j k oj ok q1 q2 eq => S.inj j k _ _ (un q1).2 (un q2).2 eq, fun b hbs => ⟨hB b hbs, fun j hj ob q => (S.bs b (List.mem_cons_of_mem _ hbs)).2 j hj ob (un q).2⟩, by show b0 ≤ (st.obs.take n).length; rw [hl]; exact hb⟩
  obtain ⟨g, ho, h1, h2⟩ := S.ob j ob (un q).2
  refine ⟨g, ho, h1, ?_⟩
  show RepO K φ (st.obs.take n).length G ob ho
  rw [hl]
  exact h2.cut ((S.bs n List.mem_cons_self).2 j (un q).1 ob (un q).2)
end
end Vi

set_option maxHeartbeats 1000000
/-! Vi1: what a piece of the text is worth in the plain interpreter (judgements JE, JT, JA, JS), and the rules of expressions. -/
namespace Vi
open PySem PySem.Spec PyProof.Rows L2

/-- what others hold: tracked, neither frozen nor of the store -/
def Fgn (φ : Nat → Addr) (G : Hp) (st : Sto) (H : Hp) (p : Addr) : Prop := H p ≠ none ∧ G p = none ∧ ∀ (i : Nat) (o : Ob), st.obs[i]? = some (some o) → φ i ≠ p
structure Go (K : PySem.W.Frag) (Bs : List Nat) (φ : Nat → Addr) (G : Hp) (st : Sto) (H : Hp) (φ' : Nat → Addr) (G' : Hp) (st' : Sto) (H' : Hp) : Prop where
  ext : Ext φ G st.n φ' G'
  le : st.n ≤ st'.n
  bq : st'.base = st.base
  fr : ∀ p, Fgn φ G st H p → H' p = H p ∧ Fgn φ' G' st' H' p
  sim : SimS K φ' G' Bs st' H'
section
variable {K : PySem.W.Frag} {Bs : List Nat} {φ φ' φ'' : Nat → Addr} {G G' G'' : Hp} {st st' st'' : Sto} {H H' H'' : Hp}
theorem Go.trans (a : Go K Bs φ G st H φ' G' st' H') (b : Go K Bs φ' G' st' H' φ'' G'' st'' H'') : Go K Bs φ G st H φ'' G'' st'' H'' :=
  ⟨a.ext.trans a.le b.ext, Nat.le_trans a.le b.le, b.bq.trans a.bq, fun p f => let ⟨e1, f1⟩ := a.fr p f; let ⟨e2, f2⟩ := b.fr p f1; ⟨e2.trans e1, f2⟩, b.sim⟩
theorem Go.here (S : SimS K φ G Bs st H) : Go K Bs φ G st H φ G st H := ⟨.refl, Nat.le_refl _, rfl, fun p f => ⟨rfl, f⟩, S⟩
theorem Go.v {x : Va} {v : LV} (g : Go K Bs φ G st H φ' G' st' H') (r : RepV K φ st.n G x v) : RepV K φ' st'.n G' x v := r.ext g.ext g.le
theorem Go.vs {x : List Va} {v : List LV} (g : Go K Bs φ G st H φ' G' st' H') (r : RepVs K φ st.n G x v) : RepVs K φ' st'.n G' x v := r.ext g.ext g.le
theorem Go.env {env : Ev} {σ : L2.St} (g : Go K Bs φ G st H φ' G' st' H') (r : EnvR K φ st.n G env σ) : EnvR K φ' st'.n G' env σ := r.ext g.ext g.le
/-- a frozen object more -/
theorem Go.laid (S : SimS K φ G Bs st H) {p : Addr} {o : HO} (hp : H p = none) : Go K Bs φ G st H φ (upd G p o) st (upd H p o) := by
  refine ⟨⟨fun _ _ => rfl, same_up (S.gnone hp)⟩, Nat.le_refl _, rfl, fun q ⟨f1, f2, f3⟩ => ?_, S.laid hp⟩
  have ne : q ≠ p := fun e => f1 (e ▸ hp)
  exact ⟨upd_ne ne, by rw [upd_ne ne]; exact f1, by rw [upd_ne ne]; exact f2, f3⟩
/-- an object of the store more -/
theorem Go.made (S : SimS K φ G Bs st H) {p : Addr} {o : Ob} {ho : HO} (hp : H p = none) (hs : ∀ b, b ≠ p → H b ≠ none → H' b = H b) (hh : H' p = some ho) (r : RepO K φ st.n G o ho) : Go K Bs φ G st H (putφ φ st.n p) G (st.push o) H' := by
  have hl : (st.push o).n = st.n + 1 := by show (st.obs ++ [some o]).length = _; rw [List.length_append]; rfl
  refine ⟨⟨putφ_lt, Same.refl G⟩, by rw [hl]; omega, rfl, fun q ⟨f1, f2, f3⟩ => ?_, S.made hp hs hh r⟩
  have ne : q ≠ p := fun e => f1 (e ▸ hp)
  have eq := hs q ne f1
  refine ⟨eq, by rw [eq]; exact f1, f2, fun i ob e z => ?_⟩
  have e : (st.obs ++ [some o])[i]? = some (some ob) := e
  by_cases hi : i < st.n
  · rw [putφ_lt i hi] at z
    rw [List.getElem?_append_left hi] at e
    exact f3 i ob e z
  · by_cases h0 : i = st.n
    · rw [h0, putφ_same] at z
      exact ne z.symm
    · have : i < (st.obs ++ [some o]).length := (List.getElem?_eq_some_iff.mp e).1
      rw [List.length_append] at this
      have h2 : st.n = st.obs.length := rfl
      simp only [List.length_cons, List.length_nil] at this
      omega
/-- an object of the store written -/
theorem Go.put (S : SimS K φ G Bs st H) {i : Nat} {o o' : Ob} {ho : HO} (e : st.obs[i]? = some (some o)) (r : RepO K φ st.n G o' ho) (hb : ∀ b, b ∈ Bs → i < b → o'.lt b = true) : Go K Bs φ G st H φ G (st.put i o') (upd H (φ i) ho) := by
  have hl : (st.put i o').n = st.n := List.length_set
  refine ⟨⟨fun _ _ => rfl, Same.refl G⟩, by rw [hl]; exact Nat.le_refl _, rfl, fun q ⟨f1, f2, f3⟩ => ?_, S.put e r hb⟩
  have ne : q ≠ φ i := fun z => f3 i o e z.symm
  refine ⟨upd_ne ne, by rw [upd_ne ne]; exact f1, f2, fun j ob q' z => ?_⟩
  rcases get_set q' with ⟨rfl, _⟩ | ⟨_, q'⟩
  · exact ne z.symm
  · exact f3 j ob q' z
end

/-- what is wanted behind a result -/
def Post {α : Type} (K : PySem.W.Frag) (E : XK) (Bs : List Nat) (φ : Nat → Addr) (G : Hp) (st : Sto) (H : Hp) (r : Res α) (give : α → Sto → (Nat → Addr) → Hp → Hp → Prop) : Prop := match r with
  | .ok a st' => ∀ φ' G' H', Go K Bs φ G st H φ' G' st' H' → give a st' φ' G' H'
  | .exn c x st' => ∀ φ' G' H' dd lv, Go K Bs φ G st H φ' G' st' H' → H' dd = some (.xd [("value", lv)]) → RepV K φ' st'.n G' x lv → E (.ref (cadr K c)) (some dd) H'
  | .bad => False
section
variable {α β : Type} {K : PySem.W.Frag} {E E' : XK} {Bs : List Nat} {φ φ' : Nat → Addr} {G G' : Hp} {st st' : Sto} {H H' : Hp} {r : Res α} {give give' : α → Sto → (Nat → Addr) → Hp → Hp → Prop}
theorem Post.move (p : Post K E Bs φ G st H r give) (g : Go K Bs φ G st H φ' G' st' H') : Post K E Bs φ' G' st' H' r give := by
  cases r with
  | ok a s => exact fun φ2 G2 H2 g2 => p φ2 G2 H2 (g.trans g2)
  | exn c x s => exact fun φ2 G2 H2 dd lv g2 => p φ2 G2 H2 dd lv (g.trans g2)
  | bad => exact p
theorem Post.imp (p : Post K E Bs φ G st H r give) (h : ∀ a s φ' G' H', Go K Bs φ G st H φ' G' s H' → give a s φ' G' H' → give' a s φ' G' H') : Post K E Bs φ G st H r give' := by
  cases r with
  | ok a s => exact fun φ2 G2 H2 g2 => h a s φ2 G2 H2 g2 (p φ2 G2 H2 g2)
  | exn c x s => exact p
  | bad => exact p
theorem Post.bind {k : α → Sto → Res β} {give : β → Sto → (Nat → Addr) → Hp → Hp → Prop} (p : Post K E Bs φ G st H (r.bind k) give) : Post K E Bs φ G st H r (fun a s φ' G' H' => Post K E Bs φ' G' s H' (k a s) give) := by
  cases r with
  | ok a s => exact fun φ2 G2 H2 g2 => Post.move (r := k a s) p g2
  | exn c x s => exact p
  | bad => exact p
def lift {α : Type} : Option (α × Sto) → Res α
  | some (a, s) => .ok a s
  | none => .bad
theorem Post.lifted {o : Option (α × Sto)} (p : Post K E Bs φ G st H (lift o) give) : Post K E' Bs φ G st H (lift o) give := by
  cases o with
  | none => exact p
  | some q => exact p
/-- an answer that is there, at a state -/
theorem Post.at {o : Option (α × Sto)} (p : Post K E Bs φ G st H (lift o) give) : ∃ a s, o = some (a, s) ∧ ∀ φ' G' H', Go K Bs φ G st H φ' G' s H' → give a s φ' G' H' := by
  cases o with
  | none => exact p.elim
  | some q => exact ⟨q.1, q.2, rfl, p⟩
end

abbrev giveV (K : PySem.W.Frag) (Q : VK) : Va → Sto → (Nat → Addr) → Hp → Hp → Prop := fun v s φ G H => ∀ lv, RepV K φ s.n G v lv → Q lv H
/-! ### the judgements -/
def RE (X : Cx) (W : WX) (f : SE) : TE := fun σ H Q => ∃ φ G Bs env st, SimS X.K φ G Bs st H ∧ EnvR X.K φ st.n G env σ ∧ Post X.K (fun c d H => W c d σ H) Bs φ G st H (f env st) (giveV X.K Q)
def RT (X : Cx) (W : WX) (f : ST) : TT := fun σ H Q => ∃ φ G Bs env st, SimS X.K φ G Bs st H ∧ EnvR X.K φ st.n G env σ ∧ Post X.K (fun c d H => W c d σ H) Bs φ G st H (f env st) (fun b _ _ _ H => Q b H)
def RA (X : Cx) (W : WX) (f : SA) : TA := fun σ H Q => ∃ φ G Bs env st, SimS X.K φ G Bs st H ∧ EnvR X.K φ st.n G env σ ∧ Post X.K (fun c d H => W c d σ H) Bs φ G st H (f env st) (fun vs s φ G H => ∀ lvs, RepVs X.K φ s.n G vs lvs → Q lvs H)
def giveO (K : PySem.W.Frag) (W : WX) (D : Ends) : Out → Sto → (Nat → Addr) → Hp → Hp → Prop := fun o s φ G H => match o with
  | .nx e => ∀ σ, EnvR K φ s.n G e σ → D.nx σ H
  | .rt v => ∀ lv, RepV K φ s.n G v lv → D.rt lv H
  | .bk e => ∀ σ, EnvR K φ s.n G e σ → D.bk σ H
  | .ct e => ∀ σ, EnvR K φ s.n G e σ → D.ct σ H
  | .ex c x e => ∀ σ dd lv, EnvR K φ s.n G e σ → H dd = some (.xd [("value", lv)]) → RepV K φ s.n G x lv → W (.ref (cadr K c)) (some dd) σ H
def RS (X : Cx) (W : WX) (f : SS) : TS := fun D σ H => ∃ φ G Bs env st, SimS X.K φ G Bs st H ∧ EnvR X.K φ st.n G env σ ∧ Post X.K E0 Bs φ G st H (f env st) (giveO X.K W D)
def JE (X : Cx) (W : WX) (e : Expr) (f : SE) : Prop := PE X e (RE X W f)
def JT (X : Cx) (W : WX) (e : Expr) (f : ST) : Prop := PT X e (RT X W f)
def JW (X : Cx) (W : WX) (e : Expr) (f : ST) : Prop := PW X e (RT X W f)
def JA (X : Cx) (W : WX) (es : List Expr) (f : SA) : Prop := PA X es (RA X W f)
def JS (X : Cx) (W : WX) (s : Stmt) (f : SS) : Prop := PS X s (RS X W f)
def JB (X : Cx) (W : WX) (s : List Stmt) (f : SS) : Prop := PSs X s (RS X W f)
section
variable {X : Cx} {W : WX} {e : Expr} {es : List Expr} {s : Stmt} {b : List Stmt}
theorem je_w {t : TE} {f : SE} (h : PE X e t) (w : ∀ σ H Q, RE X W f σ H Q → t σ H Q) : JE X W e f := ⟨fun pins s σ H Q I r => h.run pins s σ H Q I (w σ H Q r)⟩
theorem jt_w {t : TT} {f : ST} (h : PT X e t) (w : ∀ σ H Q, RT X W f σ H Q → t σ H Q) : JT X W e f := ⟨fun pins s σ H Q I r => h.run pins s σ H Q I (w σ H Q r)⟩
theorem jw_w {t : TT} {f : ST} (h : PW X e t) (w : ∀ σ H Q, RT X W f σ H Q → t σ H Q) : JW X W e f := ⟨fun wh pins s σ H Q I r => h.run wh pins s σ H Q I (w σ H Q r)⟩
theorem ja_w {t : TA} {f : SA} (h : PA X es t) (w : ∀ σ H Q, RA X W f σ H Q → t σ H Q) : JA X W es f := ⟨fun pos pins s σ H Q I r => h.run pos pins s σ H Q I (w σ H Q r)⟩
theorem js_w {t : TS} {f : SS} (h : PS X s t) (w : ∀ D σ H, RS X W f D σ H → t D σ H) : JS X W s f := ⟨fun pins s σ H D I r => h.run pins s σ H D I (w D σ H r)⟩
theorem jb_w {t : TS} {f : SS} (h : PSs X b t) (w : ∀ D σ H, RS X W f D σ H → t D σ H) : JB X W b f := ⟨fun pins s σ H D I r => h.run pins s σ H D I (w D σ H r)⟩
theorem JW.jt {f : ST} (h : JW X W e f) : JT X W e f := PW.pt h
end

/-! ### names, constants -/
def sK (v : PD) : SE := fun _ st => .ok (.d v) st
def sV (i : Nat) : SE := fun env st => match env[i]? with
  | some (some v) => .ok v st
  | _ => .bad
section
variable {X : Cx} {W : WX} {pos : Pos}
theorem je_k {e : Expr} {lv : LV} {v : PD} (h : PE X e (tC lv)) (r : ∀ G, RepD X.K G v lv) : JE X W e (sK v) := by
  refine je_w h fun σ H Q ⟨φ, G, Bs, env, st, S, R, p⟩ => ?_
  exact p φ G H (Go.here S) lv (.d (r G))
theorem je_int {i j} : JE X W (.Constant (.int i) j pos) (sK (.int i)) := je_k pe_int fun _ => .int i
theorem je_bl {b j} : JE X W (.Constant (.bool b) j pos) (sK (.bool b)) := je_k pe_bl fun _ => .bl b
theorem je_non {j} : JE X W (.Constant .none j pos) (sK .none) := je_k pe_non fun _ => .non
theorem je_str {x j} : JE X W (.Constant (.str x) j pos) (sK (.str x)) := je_k pe_str fun _ => .str x
theorem je_v (i : Nat) {x : Str} (hN : X.N[i]? = some x := by rfl) (hv : Vis X.env.scope x := by first | exact Or.inl rfl | exact Or.inr (Or.inl rfl) | exact Or.inr (Or.inr rfl)) (hd : (x == ("__debug__" : Str)) = false := by decide)
    (hc : (x == ("__classdict__" : Str)) = false := by decide) : JE X W (.Name x pos) (sV i) := by
  refine je_w (pe_var hN hv hd hc) fun σ H Q ⟨φ, G, Bs, env, st, S, R, p⟩ => ?_
  unfold sV at p
  split at p
  · rename_i v q
    obtain ⟨lv, h1, h2⟩ := R.2 i v q
    exact ⟨lv, h1, p φ G H (Go.here S) lv h2⟩
  · exact p.elim
/-- a module's constant -/
theorem je_g {x : Str} {v : PD} {u : Value} {lv : LV} (hg : Gl X x) (hm : X.mg x = some u) (r : RelV lv u) (q : ∀ G, RepD X.K G v lv) (hd : (x == ("__debug__" : Str)) = false := by decide) : JE X W (.Name x pos) (sK v) := je_k (pe_glob hg hm r hd) q
end

/-! ### operators by values -/
abbrev O2 := Va → Va → Sto → Option (Va × Sto)
def ROp (K : PySem.W.Frag) (g : O2) : R2 := fun x y H Q => ∃ φ G Bs st a b, SimS K φ G Bs st H ∧ RepV K φ st.n G a x ∧ RepV K φ st.n G b y ∧ Post K E0 Bs φ G st H (lift (g a b st)) (giveV K Q)
def JOp (X : Cx) (f : Value → Value → Sem Value) (g : O2) : Prop := OpR X f (ROp X.K g)
def s2 (g : O2) (a b : SE) : SE := fun env st => (a env st).bind fun x s => (b env s).bind fun y s => lift (g x y s)
section
variable {X : Cx} {W : WX} {a b c : Expr} {fa fb fc : SE} {pos : Pos}
/-- two expressions in a row -/
theorem two_of {σ : L2.St} {H : Hp} {Q : VK} {k : Va → Va → Sto → Res Va} (h : RE X W (fun env st => (fa env st).bind fun x s => (fb env s).bind fun y s => k x y s) σ H Q) :
    RE X W fa σ H fun x H1 => RE X W fb σ H1 fun y H2 => ∃ φ G Bs env st va vb, SimS X.K φ G Bs st H2 ∧ EnvR X.K φ st.n G env σ ∧ RepV X.K φ st.n G va x ∧ RepV X.K φ st.n G vb y ∧ Post X.K (fun c d H => W c d σ H) Bs φ G st H2 (k va vb st) (giveV X.K Q) := by
  obtain ⟨φ, G, Bs, env, st, S, R, p⟩ := h
  refine ⟨φ, G, Bs, env, st, S, R, p.bind.imp fun va st1 φ1 G1 H1 g1 p1 lv r1 => ?_⟩
  refine ⟨φ1, G1, Bs, env, st1, g1.sim, g1.env R, p1.bind.imp fun vb st2 φ2 G2 H2 g2 p2 lv2 r2 => ?_⟩
  exact ⟨φ2, G2, Bs, env, st2, va, vb, g2.sim, g2.env (g1.env R), g2.v r1, r2, p2⟩
theorem je_2 {op : Operator} {g : O2} (ho : JOp X (binaryOp op) g) (ha : JE X W a fa) (hb : JE X W b fb) : JE X W (.BinOp a op b pos) (s2 g fa fb) := by
  refine je_w (pe_op ho ha hb) fun σ H Q h => ?_
  have ⟨φ, G, Bs, env, st, S, R, p⟩ := two_of (k := fun x y s => lift (g x y s)) h
  refine ⟨φ, G, Bs, env, st, S, R, p.imp fun va st1 φ1 G1 H1 g1 p1 lv r1 => ?_⟩
  have ⟨φ1, G1, Bs1, env1, st1, S1, R1, p1⟩ := p1 lv r1
  refine ⟨φ1, G1, Bs1, env1, st1, S1, R1, p1.imp fun vb st2 φ2 G2 H2 g2 p2 lv2 r2 => ?_⟩
  obtain ⟨φ, G, Bs, env, st, va, vb, S, R, r1, r2, p⟩ := p2 lv2 r2
  exact ⟨φ, G, Bs, st, va, vb, S, r1, r2, p.lifted⟩
theorem je_cmp {op : CmpOp} {g : O2} (ho : JOp X (compareOp op) g) (ha : JE X W a fa) (hb : JE X W b fb) (hm : behindInMarks op b = false) : JE X W (.Compare a [op] [b] pos) (s2 g fa fb) := by
  refine je_w (pe_cmpR ho ha hb hm) fun σ H Q h => ?_
  have ⟨φ, G, Bs, env, st, S, R, p⟩ := two_of (k := fun x y s => lift (g x y s)) h
  refine ⟨φ, G, Bs, env, st, S, R, p.imp fun va st1 φ1 G1 H1 g1 p1 lv r1 => ?_⟩
  have ⟨φ1, G1, Bs1, env1, st1, S1, R1, p1⟩ := p1 lv r1
  refine ⟨φ1, G1, Bs1, env1, st1, S1, R1, p1.imp fun vb st2 φ2 G2 H2 g2 p2 lv2 r2 => ?_⟩
  obtain ⟨φ, G, Bs, env, st, va, vb, S, R, r1, r2, p⟩ := p2 lv2 r2
  exact ⟨φ, G, Bs, st, va, vb, S, r1, r2, p.lifted⟩
end
end Vi

set_option maxHeartbeats 1000000
/-! Vi2: operators by values. -/
namespace Vi
open PySem PySem.Spec PyProof.Rows L2

/-- what a def's body leaves room for -/
structure Fit (X : Cx) : Prop where
  gd : X.A.guards = some []
  un : X.A.units + 160 < cLine
  calm : X.calm = true

/-! ### data peeked at -/
def peek : Va → Sto → Option PD
  | .d x, _ => some x
  | .r i, st => match st.obs[i]? with
    | some (some (.l xs)) => (allD xs).map .list
    | _ => none
  | _, _ => none
def peekL : Va → Sto → Option (List PD)
  | .d (.list ds), _ => some ds
  | .r i, st => match st.obs[i]? with
    | some (some (.l xs)) => allD xs
    | _ => none
  | _, _ => none
mutual
theorem RepD.dp {K : PySem.W.Frag} {G H : Hp} (h : Same G H) : ∀ {x : PD} {v : LV}, RepD K G x v → x.canLay0 = true → Dp K H v x
  | _, _, .non, _ => .non
  | _, _, .bl b, _ => .bl b
  | _, _, .int i, _ => .int i
  | _, _, .str x, _ => .str x
  | _, _, .lst s r, e => .lst (.of (h _ _ s)) (RepDs.dp h r (by simpa [PyData.canLay0] using e))
  | _, _, .tup s r, e => .tup (sqT_mono h s) (RepDs.dp h r (by simpa [PyData.canLay0] using e))
  | _, _, .dct _ _, e => by simp [PyData.canLay0] at e
theorem RepDs.dp {K : PySem.W.Frag} {G H : Hp} (h : Same G H) : ∀ {x : List PD} {v : List LV}, RepDs K G x v → PyData.canLayAll0 x = true → DpAll K H v x
  | _, _, .nil, _ => .nil
  | x :: xs, _, .cons a b, e => by
    have e : (PyData.canLay0 x && PyData.canLayAll0 xs) = true := by simpa [PyData.canLayAll0] using e
    obtain ⟨e1, e2⟩ := Bool.and_eq_true_iff.mp e
    exact .cons (RepD.dp h a e1) (RepDs.dp h b e2)
end
section
variable {K : PySem.W.Frag} {φ : Nat → Addr} {G : Hp} {Bs : List Nat} {st : Sto} {H : Hp}
theorem peekL_rep (S : SimS K φ G Bs st H) {v : Va} {lv : LV} {ds : List PD} (r : RepV K φ st.n G v lv) (e : peekL v st = some ds) : ∃ a xs, lv = .ref a ∧ H a = some (.lst xs) ∧ RepDs K G ds xs := by
  cases r with
  | d r =>
    cases r with
    | lst s r =>
      cases e
      exact ⟨_, _, rfl, S.sub _ _ s, r⟩
    | _ => cases e
  | @r i hi =>
    unfold peekL at e
    dsimp only at e
    split at e
    · rename_i xs q
      obtain ⟨_, ho, h1, h2⟩ := S.ob i _ q
      cases h2 with
      | l r => exact ⟨_, _, rfl, h1, allD_rep e r⟩
    · cases e
  | t _ _ => cases e
  | s _ => cases e
theorem peek_dp (S : SimS K φ G Bs st H) {v : Va} {lv : LV} {x : PD} (r : RepV K φ st.n G v lv) (e : peek v st = some x) (c : x.canLay0 = true) : Dp K H lv x := by
  cases r with
  | d r =>
    cases e
    exact r.dp S.sub c
  | @r i hi =>
    unfold peek at e
    dsimp only at e
    split at e
    · rename_i xs q
      obtain ⟨_, ho, h1, h2⟩ := S.ob i _ q
      cases h2 with
      | l r =>
        cases hd : allD xs with
        | none => simp [hd] at e
        | some ds =>
          simp only [hd, Option.map_some, Option.some.injEq] at e
          subst e
          exact .lst (.of h1) (RepDs.dp S.sub (allD_rep hd r) (by simpa [PyData.canLay0] using c))
    · cases e
  | t _ _ => cases e
  | s _ => cases e
/-- a new frozen object is given -/
theorem laid_give (S : SimS K φ G Bs st H) {p : Addr} {ho : HO} {x : Va} {Q : VK} (hp : H p = none) (hr : ∀ G', Same G G' → G' p = some ho → RepV K φ st.n G' x (.ref p)) (give : ∀ φ' G' H', Go K Bs φ G st H φ' G' st H' → ∀ lv, RepV K φ' st.n G' x lv → Q lv H') : Q (.ref p) (upd H p ho) := by
  have sg : Same G (upd G p ho) := same_up (S.gnone hp)
  exact give φ _ _ (Go.laid S hp) _ (hr _ sg upd_same)
/-- a new object of the store is given -/
theorem made_give (S : SimS K φ G Bs st H) {p : Addr} {o : Ob} {ho : HO} {H' : Hp} {Q : VK} (hp : H p = none) (hs : ∀ b, b ≠ p → H b ≠ none → H' b = H b) (hh : H' p = some ho) (r : RepO K φ st.n G o ho) (give : ∀ φ' G' H', Go K Bs φ G st H φ' G' (st.push o) H' → ∀ lv, RepV K φ' (st.push o).n G' (.r st.n) lv → Q lv H') : Q (.ref p) H' := by
  have hl : (st.push o).n = st.n + 1 := by show (st.obs ++ [some o]).length = _; rw [List.length_append]; rfl
  have := give (putφ φ st.n p) G H' (Go.made S hp hs hh r) (.ref (putφ φ st.n p st.n)) (.r (by rw [hl]; omega))
  rwa [putφ_same] at this
end

/-! ### operators -/
def oAdd : O2 := fun x y st => match x, y with
  | .d (.int i), .d (.int j) => some (.d (.int (i + j)), st)
  | .d (.str a), .d (.str b) => if a.length + b.length ≤ sizeLine then some (.d (.str (a ++ b)), st) else none
  | .d (.tuple xs), .d (.tuple ys) => if xs.length + ys.length ≤ sizeLine then some (.d (.tuple (xs ++ ys)), st) else none
  | x, y => match peekL x st, peekL y st with
    | some xs, some ys => if xs.length + ys.length ≤ sizeLine then some (.d (.list (xs ++ ys)), st) else none
    | _, _ => none
def oSub : O2 := fun x y st => match x, y with
  | .d (.int i), .d (.int j) => some (.d (.int (i - j)), st)
  | _, _ => none
def oMul : O2 := fun x y st => match x, y with
  | .d (.int i), .d (.int j) => if i.natAbs.log2 + j.natAbs.log2 < 1000000 then some (.d (.int (i * j)), st) else none
  | .d (.list ds), .d (.int k) => if -(2 ^ 63) ≤ k ∧ k < 2 ^ 63 ∧ ds.length * k.toNat ≤ sizeLine then some (.d (.list (List.replicate k.toNat ds).flatten), st) else none
  | _, _ => none
def oDiv : O2 := fun x y st => match x, y with
  | .d (.int i), .d (.int j) => if 0 < j ∧ j.natAbs.log2 < 9000 then some (.d (.int (i / j)), st) else none
  | _, _ => none
def oMod : O2 := fun x y st => match x, y with
  | .d (.int i), .d (.int j) => if 0 < j then some (.d (.int (i % j)), st) else none
  | _, _ => none
def oPow : O2 := fun x y st => match x, y with
  | .d (.int i), .d (.int j) => if 0 ≤ j ∧ ((i.natAbs.log2 + 1 : Nat) : Int) * j ≤ 134217728 then some (.d (.int (i ^ j.toNat)), st) else none
  | _, _ => none
def oShl : O2 := fun x y st => match x, y with
  | .d (.int i), .d (.int j) => if 0 ≤ j ∧ ((i.natAbs.log2 + 1 : Nat) : Int) + j ≤ 134217728 then some (.d (.int (i * 2 ^ j.toNat)), st) else none
  | _, _ => none
def oShr : O2 := fun x y st => match x, y with
  | .d (.int i), .d (.int j) => if 0 ≤ j then some (.d (.int (i / 2 ^ j.toNat)), st) else none
  | _, _ => none
def oEq : O2 := fun x y st => match x, y with
  | .d (.str a), .d (.str b) => some (.d (.bool (decide (a = b))), st)
  | x, y => match peek x st, peek y st with
  | some a, some b => if SeqAt.shaped a = true ∧ SeqAt.shaped b = true then some (.d (.bool (PyData.eqv a b)), st) else none
  | _, _ => none
def oNe : O2 := fun x y st => match x, y with
  | .d (.str a), .d (.str b) => some (.d (.bool (!decide (a = b))), st)
  | x, y => match peek x st, peek y st with
  | some a, some b => if SeqAt.shaped a = true ∧ SeqAt.shaped b = true then some (.d (.bool (!PyData.eqv a b)), st) else none
  | _, _ => none
def oLt : O2 := fun x y st => match x, y with
  | .d (.int i), .d (.int j) => some (.d (.bool (decide (i < j))), st)
  | _, _ => none
def oLe : O2 := fun x y st => match x, y with
  | .d (.int i), .d (.int j) => some (.d (.bool (decide (i ≤ j))), st)
  | _, _ => none
def oGt : O2 := fun x y st => match x, y with
  | .d (.int i), .d (.int j) => some (.d (.bool (decide (j < i))), st)
  | _, _ => none
def oGe : O2 := fun x y st => match x, y with
  | .d (.int i), .d (.int j) => some (.d (.bool (decide (j ≤ i))), st)
  | _, _ => none
/-- what == tells apart without a heap -/
def flatD : PD → Bool
  | .none => true
  | .bool _ => true
  | .int _ => true
  | .str _ => true
  | _ => false
def memD : PD → PD → Sto → Option Bool := fun x y st => match y with
  | .str z => (match x with
    | .str c => (match c.cps.toList with
      | [k] => some (decide (k ∈ z.cps.toList))
      | _ => none)
    | _ => none)
  | .tuple ys => if flatD x = true ∧ ys.all flatD = true then some (ys.any fun z => PyData.eqv z x) else none
  | .list ys => if SeqAt.shaped x = true ∧ SeqAt.shaped (.list ys) = true then some (ys.any fun z => PyData.eqv z x) else none
  | _ => none
def oIn : O2 := fun x y st => match peek x st, peek y st with
  | some a, some b => (memD a b st).map fun k => (.d (.bool k), st)
  | _, _ => none
def oNin : O2 := fun x y st => match peek x st, peek y st with
  | some a, some b => (memD a b st).map fun k => (.d (.bool (!k)), st)
  | _, _ => none
def isNone : Va → Bool
  | .d .none => true
  | _ => false
def oIsN : O2 := fun x y st => if isNone y = true then some (.d (.bool (isNone x)), st) else none
def oNotN : O2 := fun x y st => if isNone y = true then some (.d (.bool (!isNone x)), st) else none

section
variable {X : Cx}
/-- by what the operator answers -/
theorem jop {f : Value → Value → Sem Value} {g : O2} (h : ∀ (pins : List (Addr × Obj)) (s : Shared) (σ : L2.St) (H : Hp) (x y : LV) (v u : Value) (Q : VK) φ G Bs (st : Sto) a b c s', Inv X pins σ H s → RelV x v → RelV y u →
    SimS X.K φ G Bs st H → RepV X.K φ st.n G a x → RepV X.K φ st.n G b y → g a b st = some (c, s') → (∀ φ' G' H', Go X.K Bs φ G st H φ' G' s' H' → ∀ lv, RepV X.K φ' s'.n G' c lv → Q lv H') → wpAny (model X.prog X.w) X.A (f v u) (EP X pins σ Q) X.xe s) : JOp X f g := by
  intro pins s σ H x y v u Q I rx ry ⟨φ, G, Bs, st, a, b, S, ra, rb, p⟩
  obtain ⟨c, s', e, give⟩ := p.at
  exact h pins s σ H x y v u Q φ G Bs st a b c s' I rx ry S ra rb e give
theorem intV {K : PySem.W.Frag} {φ : Nat → Addr} {n : Nat} {G : Hp} {i : Int} {x : LV} (r : RepV K φ n G (.d (.int i)) x) : x = .int i := by
  cases r with
  | d r => cases r; rfl
theorem strV {K : PySem.W.Frag} {φ : Nat → Addr} {n : Nat} {G : Hp} {i : Str} {x : LV} (r : RepV K φ n G (.d (.str i)) x) : x = .str i := by
  cases r with
  | d r => cases r; rfl
/-- two ints -/
theorem jop_ii {f : Value → Value → Sem Value} {g : O2} {C : Int → Int → Prop} {k : Int → Int → PD} {kV : Int → Int → LV} (ho : OpR X f (rI C kV)) (hk : ∀ K G i j, RepD K G (k i j) (kV i j))
    (hg : ∀ a b st c s', g a b st = some (c, s') → ∃ i j, a = .d (.int i) ∧ b = .d (.int j) ∧ C i j ∧ c = .d (k i j) ∧ s' = st) : JOp X f g := by
  refine jop fun pins s σ H x y v u Q φ G Bs st a b c s' I rx ry S ra rb e give => ?_
  obtain ⟨i, j, rfl, rfl, hc, rfl, rfl⟩ := hg _ _ _ _ _ e
  have e1 := intV ra
  have e2 := intV rb
  subst e1 e2
  exact ho pins s σ H _ _ v u Q I rx ry ⟨i, j, rfl, rfl, hc, give φ G H (Go.here S) _ (.d (hk _ _ _ _))⟩
theorem jop_sub : JOp X (binaryOp .Sub) oSub := by
  refine jop_ii (C := fun _ _ => True) (k := fun i j => .int (i - j)) (kV := fun i j => .int (i - j)) (opI fun _ _ _ _ _ _ _ _ q => sub_int q) (fun _ _ _ _ => .int _) fun a b st c s' e => ?_
  unfold oSub at e
  split at e
  · cases e
    exact ⟨_, _, rfl, rfl, trivial, rfl, rfl⟩
  · cases e
theorem jop_div : JOp X (binaryOp .FloorDiv) oDiv := by
  refine jop_ii (k := fun i j => .int (i / j)) op_fdivW (fun _ _ _ _ => .int _) fun a b st c s' e => ?_
  unfold oDiv at e
  split at e
  · split at e
    · rename_i h
      cases e
      exact ⟨_, _, rfl, rfl, h, rfl, rfl⟩
    · cases e
  · cases e
theorem jop_mod : JOp X (binaryOp .Mod) oMod := by
  refine jop_ii (k := fun i j => .int (i % j)) op_mod (fun _ _ _ _ => .int _) fun a b st c s' e => ?_
  unfold oMod at e
  split at e
  · split at e
    · rename_i h
      cases e
      exact ⟨_, _, rfl, rfl, h, rfl, rfl⟩
    · cases e
  · cases e
theorem bits_le (i : Int) : (Builtin.Int.intBits i : Int) ≤ ((i.natAbs.log2 + 1 : Nat) : Int) := by
  unfold Builtin.Int.intBits
  split <;> omega
theorem jop_pow : JOp X (binaryOp .Pow) oPow := by
  refine jop_ii (C := fun i j => 0 ≤ j ∧ ((i.natAbs.log2 + 1 : Nat) : Int) * j ≤ 134217728) (k := fun i j => .int (i ^ j.toNat)) (opI fun i j _ _ _ _ _ hc q => pow_int hc.1 ?_ q) (fun _ _ _ _ => .int _) fun a b st c s' e => ?_
  · have h1 := Int.mul_le_mul_of_nonneg_right (bits_le i) hc.1
    exact Int.le_trans h1 (Int.le_trans hc.2 (by decide))
  · unfold oPow at e
    split at e
    · split at e
      · rename_i h
        cases e
        exact ⟨_, _, rfl, rfl, h, rfl, rfl⟩
      · cases e
    · cases e
theorem jop_shl : JOp X (binaryOp .LShift) oShl := by
  refine jop_ii (C := fun i j => 0 ≤ j ∧ ((i.natAbs.log2 + 1 : Nat) : Int) + j ≤ 134217728) (k := fun i j => .int (i * 2 ^ j.toNat)) (opI fun i j _ _ _ _ _ hc q => lshift_int hc.1 ?_ q) (fun _ _ _ _ => .int _) fun a b st c s' e => ?_
  · have h1 := bits_le i
    have h2 := hc.2
    show (Builtin.Int.intBits i : Int) + j ≤ 134217728
    omega
  · unfold oShl at e
    split at e
    · split at e
      · rename_i h
        cases e
        exact ⟨_, _, rfl, rfl, h, rfl, rfl⟩
      · cases e
    · cases e
theorem jop_shr : JOp X (binaryOp .RShift) oShr := by
  refine jop_ii (k := fun i j => .int (i / 2 ^ j.toNat)) op_shr (fun _ _ _ _ => .int _) fun a b st c s' e => ?_
  unfold oShr at e
  split at e
  · split at e
    · rename_i h
      cases e
      exact ⟨_, _, rfl, rfl, h, rfl, rfl⟩
    · cases e
  · cases e
theorem jop_lt : JOp X (compareOp .Lt) oLt := by
  refine jop_ii (C := fun _ _ => True) (k := fun i j => .bool (decide (i < j))) (kV := fun i j => .bl (decide (i < j))) ?_ (fun _ _ _ _ => .bl _) fun a b st c s' e => ?_
  · exact fun pins s σ H x y v u Q I rx ry ⟨i, j, a, b, _, q⟩ => op_lt pins s σ H x y v u Q I rx ry ⟨i, j, a, b, q⟩
  · unfold oLt at e
    split at e
    · cases e
      exact ⟨_, _, rfl, rfl, trivial, rfl, rfl⟩
    · cases e
theorem jop_le : JOp X (compareOp .LtE) oLe := by
  refine jop_ii (C := fun _ _ => True) (k := fun i j => .bool (decide (i ≤ j))) (kV := fun i j => .bl (decide (i ≤ j))) ?_ (fun _ _ _ _ => .bl _) fun a b st c s' e => ?_
  · exact fun pins s σ H x y v u Q I rx ry ⟨i, j, a, b, _, q⟩ => op_le pins s σ H x y v u Q I rx ry ⟨i, j, a, b, q⟩
  · unfold oLe at e
    split at e
    · cases e
      exact ⟨_, _, rfl, rfl, trivial, rfl, rfl⟩
    · cases e
theorem jop_gt : JOp X (compareOp .Gt) oGt := by
  refine jop_ii (C := fun _ _ => True) (k := fun i j => .bool (decide (j < i))) (kV := fun i j => .bl (decide (j < i))) ?_ (fun _ _ _ _ => .bl _) fun a b st c s' e => ?_
  · exact fun pins s σ H x y v u Q I rx ry ⟨i, j, a, b, _, q⟩ => op_gt pins s σ H x y v u Q I rx ry ⟨i, j, a, b, q⟩
  · unfold oGt at e
    split at e
    · cases e
      exact ⟨_, _, rfl, rfl, trivial, rfl, rfl⟩
    · cases e
theorem jop_ge : JOp X (compareOp .GtE) oGe := by
  refine jop_ii (C := fun _ _ => True) (k := fun i j => .bool (decide (j ≤ i))) (kV := fun i j => .bl (decide (j ≤ i))) ?_ (fun _ _ _ _ => .bl _) fun a b st c s' e => ?_
  · exact fun pins s σ H x y v u Q I rx ry ⟨i, j, a, b, _, q⟩ => op_ge pins s σ H x y v u Q I rx ry ⟨i, j, a, b, q⟩
  · unfold oGe at e
    split at e
    · cases e
      exact ⟨_, _, rfl, rfl, trivial, rfl, rfl⟩
    · cases e
theorem tupV {K : PySem.W.Frag} {φ : Nat → Addr} {n : Nat} {G : Hp} {ds : List PD} {x : LV} (r : RepV K φ n G (.d (.tuple ds)) x) : ∃ a xs, x = .ref a ∧ SqT K G a xs ∧ RepDs K G ds xs := by
  cases r with
  | d r => cases r with
    | tup s r => exact ⟨_, _, rfl, s, r⟩
theorem nil_of {K : PySem.W.Frag} {G : Hp} {ds : List PD} {xs : List LV} (r : RepDs K G ds xs) (e : xs = []) : ds = [] := by
  subst e
  cases r
  rfl
theorem jop_add : JOp X (binaryOp .Add) oAdd := by
  refine jop fun pins s σ H x y v u Q φ G Bs st a b c s' I rx ry S ra rb e give => ?_
  have lists : (match peekL a st, peekL b st with
      | some xs, some ys => if xs.length + ys.length ≤ sizeLine then some (Va.d (.list (xs ++ ys)), st) else none
      | _, _ => none) = some (c, s') → wpAny (model X.prog X.w) X.A (binaryOp .Add v u) (EP X pins σ Q) X.xe s := fun e => by
    split at e
    · rename_i xs ys q1 q2
      split at e
      · rename_i hz
        cases e
        obtain ⟨l, xv, rfl, h1, r1⟩ := peekL_rep S ra q1
        obtain ⟨m, yv, rfl, h2, r2⟩ := peekL_rep S rb q2
        exact op_cat pins s σ H _ _ v u Q I rx ry ⟨l, m, xv, yv, rfl, rfl, h1, h2, by rw [← r1.length, ← r2.length]; exact hz, fun p hp => laid_give S hp (fun G' sg e => .d (.lst e ((r1.append r2).mono sg))) give⟩
      · cases e
    · cases e
  unfold oAdd at e
  split at e
  · cases e
    have e1 := intV ra
    have e2 := intV rb
    subst e1 e2
    exact op_add pins s σ H _ _ v u Q I rx ry ⟨_, _, rfl, rfl, give φ G H (Go.here S) _ (.d (.int _))⟩
  · split at e
    · rename_i hz
      cases e
      have e1 := strV ra
      have e2 := strV rb
      subst e1 e2
      exact op_add_str pins s σ H _ _ v u Q I rx ry ⟨_, _, rfl, rfl, hz, give φ G H (Go.here S) _ (.d (.str _))⟩
    · cases e
  · split at e
    · rename_i xs ys hz
      cases e
      obtain ⟨p, xv, rfl, s1, r1⟩ := tupV ra
      obtain ⟨q, yv, rfl, s2, r2⟩ := tupV rb
      refine op_catA pins s σ H _ _ v u Q I rx ry ⟨p, q, xv, yv, rfl, rfl, sqT_mono S.sub s1, sqT_mono S.sub s2, by rw [← r1.length, ← r2.length]; exact hz, fun z => ?_, fun _ z => ?_, fun _ _ p hp => ?_⟩
      · have := nil_of r1 z
        subst this
        exact give φ G H (Go.here S) _ (.d (.tup s2 r2))
      · have := nil_of r2 z
        subst this
        refine give φ G H (Go.here S) _ (.d (.tup s1 ?_))
        rw [List.append_nil]
        exact r1
      · exact laid_give S hp (fun G' sg e => .d (.tup (.of e) ((r1.append r2).mono sg))) give
    · cases e
  · exact lists e
theorem RepDs.rep {K : PySem.W.Frag} {G : Hp} {ds : List PD} {xs : List LV} (r : RepDs K G ds xs) : ∀ n : Nat, RepDs K G (List.replicate n ds).flatten (List.replicate n xs).flatten
  | 0 => by simpa using RepDs.nil
  | n + 1 => by
    rw [List.replicate_succ, List.replicate_succ, List.flatten_cons, List.flatten_cons]
    exact r.append (RepDs.rep r n)
theorem jop_mul : JOp X (binaryOp .Mult) oMul := by
  refine jop fun pins s σ H x y v u Q φ G Bs st a b c s' I rx ry S ra rb e give => ?_
  unfold oMul at e
  split at e
  · split at e
    · rename_i hc
      cases e
      have e1 := intV ra
      have e2 := intV rb
      subst e1 e2
      exact op_mulW pins s σ H _ _ v u Q I rx ry ⟨_, _, rfl, rfl, hc, give φ G H (Go.here S) _ (.d (.int _))⟩
    · cases e
  · split at e
    · rename_i ds k hc
      cases e
      have e2 := intV rb
      subst e2
      obtain ⟨l, xv, rfl, h1, r1⟩ := peekL_rep (ds := ds) S ra rfl
      exact op_rep pins s σ H _ _ v u Q I rx ry ⟨l, k, xv, rfl, rfl, h1, hc.1, hc.2.1, by rw [← r1.length]; exact hc.2.2, fun p hp => laid_give S hp (fun G' sg e => .d (.lst e ((r1.rep _).mono sg))) give⟩
    · cases e
  · cases e
theorem dec_sz {a b : Str} : decide (V.str a = V.str b) = decide (a = b) := by
  rw [Bool.eq_iff_iff]
  simp
theorem jop_eq (F : Fit X) : JOp X (compareOp .Eq) oEq := by
  refine jop fun pins s σ H x y v u Q φ G Bs st a b c s' I rx ry S ra rb e give => ?_
  unfold oEq at e
  split at e
  · rename_i z1 z2
    cases e
    have e1 := strV ra
    have e2 := strV rb
    subst e1 e2
    refine op_eq pins s σ H _ _ v u Q I rx ry ⟨rfl, ?_⟩
    rw [dec_sz]
    exact give φ G H (Go.here S) _ (.d (.bl _))
  · split at e
    · rename_i da db q1 q2
      split at e
      · rename_i hs
        cases e
        exact op_eqD (by have := F.un; omega) pins s σ H _ _ v u Q I rx ry ⟨da, db, peek_dp S ra q1 (SeqAt.canLay_of_shaped hs.1), peek_dp S rb q2 (SeqAt.canLay_of_shaped hs.2), hs.1, hs.2, give φ G H (Go.here S) _ (.d (.bl _))⟩
      · cases e
    · cases e
theorem jop_ne (F : Fit X) : JOp X (compareOp .NotEq) oNe := by
  refine jop fun pins s σ H x y v u Q φ G Bs st a b c s' I rx ry S ra rb e give => ?_
  unfold oNe at e
  split at e
  · rename_i z1 z2
    cases e
    have e1 := strV ra
    have e2 := strV rb
    subst e1 e2
    refine op_ne pins s σ H _ _ v u Q I rx ry ⟨rfl, ?_⟩
    rw [dec_sz]
    exact give φ G H (Go.here S) _ (.d (.bl _))
  · split at e
    · rename_i da db q1 q2
      split at e
      · rename_i hs
        cases e
        exact op_neD (by have := F.un; omega) pins s σ H _ _ v u Q I rx ry ⟨da, db, peek_dp S ra q1 (SeqAt.canLay_of_shaped hs.1), peek_dp S rb q2 (SeqAt.canLay_of_shaped hs.2), hs.1, hs.2, give φ G H (Go.here S) _ (.d (.bl _))⟩
      · cases e
    · cases e
def lvF : PD → LV
  | .none => .non
  | .bool b => .bl b
  | .int i => .int i
  | .str x => .str x
  | _ => .non
theorem lvF_rep {K : PySem.W.Frag} {G : Hp} {x : PD} {v : LV} (r : RepD K G x v) (f : flatD x = true) : v = lvF x ∧ flatV v = true := by
  cases r <;> first | exact ⟨rfl, rfl⟩ | cases f
theorem eqV_eqv {x y : PD} (f : flatD x = true) (g : flatD y = true) : eqV (lvF x) (lvF y) = PyData.eqv x y := by
  cases x <;> first | cases f | skip
  all_goals cases y <;> first | cases g | skip
  all_goals simp only [PyData.eqv]
  all_goals first | rfl | skip
theorem flats_rep {K : PySem.W.Frag} {G : Hp} : ∀ {xs : List PD} {v : List LV}, RepDs K G xs v → xs.all flatD = true → v = xs.map lvF ∧ v.all flatV = true
  | _, _, .nil, _ => ⟨rfl, rfl⟩
  | x :: xs, _, .cons a b, f => by
    rw [List.all_cons] at f
    obtain ⟨f1, f2⟩ := Bool.and_eq_true_iff.mp f
    obtain ⟨rfl, g1⟩ := lvF_rep a f1
    obtain ⟨rfl, g2⟩ := flats_rep b f2
    exact ⟨rfl, by rw [List.all_cons, g1, g2]; rfl⟩
theorem inV_any {x : PD} (f : flatD x = true) : ∀ {ys : List PD}, ys.all flatD = true → inV (lvF x) (ys.map lvF) = ys.any fun z => PyData.eqv z x
  | [], _ => rfl
  | y :: ys, g => by
    rw [List.all_cons] at g
    obtain ⟨g1, g2⟩ := Bool.and_eq_true_iff.mp g
    have := inV_any f g2
    unfold inV at this ⊢
    rw [List.map_cons, List.any_cons, List.any_cons, this, eqV_eqv g1 f]
theorem one_sign {c : Str} {k : Nat} (h : c.cps.toList = [k]) : c = ⟨#[k]⟩ := by
  obtain ⟨a⟩ := c
  have : a = #[k] := by
    have := congrArg List.toArray h
    simpa using this
  rw [this]
theorem peek_or {a : Va} {st : Sto} {x : PD} (h : peek a st = some x) : a = .d x ∨ ∃ i ds, a = .r i ∧ x = .list ds := by
  cases a with
  | d d =>
    cases h
    exact .inl rfl
  | r i =>
    unfold peek at h
    dsimp only at h
    split at h
    · rename_i xs _
      cases hd : allD xs with
      | none => simp [hd] at h
      | some ds =>
        simp only [hd, Option.map_some, Option.some.injEq] at h
        exact .inr ⟨i, ds, rfl, h.symm⟩
    · cases h
  | t _ => cases h
  | s _ => cases h
/-- in, by the data -/
theorem mem_of {neg : Bool} (F : Fit X) {pins : List (Addr × Obj)} {s : Shared} {σ : L2.St} {H : Hp} {x y : LV} {v u : Value} {Q : VK} {φ : Nat → Addr} {G : Hp} {Bs : List Nat} {st : Sto} {a b : Va} {da db : PD} {k : Bool} (I : Inv X pins σ H s) (rx : RelV x v) (ry : RelV y u)
    (S : SimS X.K φ G Bs st H) (ra : RepV X.K φ st.n G a x) (rb : RepV X.K φ st.n G b y) (q1 : peek a st = some da) (q2 : peek b st = some db) (e : memD da db st = some k) (q : Q (.bl (if neg then !k else k)) H) :
    wpAny (model X.prog X.w) X.A (compareOp (if neg then .NotIn else .In) v u) (EP X pins σ Q) X.xe s := by
  unfold memD at e
  split at e
  · rename_i z
    split at e
    · rename_i c
      split at e
      · rename_i kk hk
        cases e
        have ec := one_sign hk
        rcases peek_or q1 with rfl | ⟨_, _, _, z⟩
        · rcases peek_or q2 with rfl | ⟨_, _, _, z⟩
          · have e1 := strV ra
            have e2 := strV rb
            subst e1 e2 ec
            cases neg with
            | false => exact op_in_sign pins s σ H _ _ v u Q I rx ry ⟨kk, _, rfl, rfl, q⟩
            | true => exact op_notIn_sign pins s σ H _ _ v u Q I rx ry ⟨kk, _, rfl, rfl, q⟩
          · cases z
        · cases z
      · cases e
    · cases e
  · rename_i ys
    split at e
    · rename_i hf
      cases e
      rcases peek_or q2 with rfl | ⟨_, _, _, z⟩
      · obtain ⟨p, yv, rfl, s2, r2⟩ := tupV rb
        obtain ⟨rfl, g2⟩ := flats_rep r2 hf.2
        rcases peek_or q1 with rfl | ⟨_, _, _, z⟩
        · cases ra with
          | d ra =>
            obtain ⟨rfl, g1⟩ := lvF_rep ra hf.1
            have em := inV_any hf.1 hf.2
            cases neg with
            | false => exact op_in_seq pins s σ H _ _ v u Q I rx ry ⟨p, _, rfl, .inr (sqT_mono S.sub s2), g1, g2, by rw [em]; exact q⟩
            | true => exact op_notIn_seq pins s σ H _ _ v u Q I rx ry ⟨p, _, rfl, .inr (sqT_mono S.sub s2), g1, g2, by rw [em]; exact q⟩
        · subst z
          exact absurd hf.1 Bool.false_ne_true
      · cases z
    · cases e
  · rename_i ys
    split at e
    · rename_i hs
      cases e
      have d1 := peek_dp S ra q1 (SeqAt.canLay_of_shaped hs.1)
      have d2 := peek_dp S rb q2 (SeqAt.canLay_of_shaped hs.2)
      have hu := F.un
      cases neg with
      | false => exact op_inD (by omega) pins s σ H _ _ v u Q I rx ry ⟨da, ys, d1, d2, hs.1, hs.2, q⟩
      | true => exact op_notInD (by omega) pins s σ H _ _ v u Q I rx ry ⟨da, ys, d1, d2, hs.1, hs.2, q⟩
    · cases e
  · cases e
theorem jop_in (F : Fit X) : JOp X (compareOp .In) oIn := by
  refine jop fun pins s σ H x y v u Q φ G Bs st a b c s' I rx ry S ra rb e give => ?_
  unfold oIn at e
  split at e
  · rename_i da db q1 q2
    cases em : memD da db st with
    | none => rw [em] at e; cases e
    | some k =>
      rw [em] at e
      cases e
      exact mem_of (neg := false) F I rx ry S ra rb q1 q2 em (give φ G H (Go.here S) _ (.d (.bl _)))
  · cases e
theorem jop_nin (F : Fit X) : JOp X (compareOp .NotIn) oNin := by
  refine jop fun pins s σ H x y v u Q φ G Bs st a b c s' I rx ry S ra rb e give => ?_
  unfold oNin at e
  split at e
  · rename_i da db q1 q2
    cases em : memD da db st with
    | none => rw [em] at e; cases e
    | some k =>
      rw [em] at e
      cases e
      exact mem_of (neg := true) F I rx ry S ra rb q1 q2 em (give φ G H (Go.here S) _ (.d (.bl _)))
  · cases e
theorem isNone_rep {K : PySem.W.Frag} {φ : Nat → Addr} {n : Nat} {G : Hp} {a : Va} {x : LV} (r : RepV K φ n G a x) : isNone a = decide (x = .non) := by
  cases r with
  | d r => cases r <;> simp [isNone]
  | r _ => simp [isNone]
  | t _ _ => simp [isNone]
  | s _ => simp [isNone]
theorem jop_isN : JOp X (compareOp .Is) oIsN := by
  refine jop fun pins s σ H x y v u Q φ G Bs st a b c s' I rx ry S ra rb e give => ?_
  unfold oIsN at e
  split at e
  · rename_i hn
    cases e
    rw [isNone_rep rb] at hn
    have hy := of_decide_eq_true hn
    refine op_isN pins s σ H _ _ v u Q I rx ry ⟨hy, ?_⟩
    rw [← isNone_rep ra]
    exact give φ G H (Go.here S) _ (.d (.bl _))
  · cases e
theorem jop_notN : JOp X (compareOp .IsNot) oNotN := by
  refine jop fun pins s σ H x y v u Q φ G Bs st a b c s' I rx ry S ra rb e give => ?_
  unfold oNotN at e
  split at e
  · rename_i hn
    cases e
    rw [isNone_rep rb] at hn
    have hy := of_decide_eq_true hn
    refine op_notN pins s σ H _ _ v u Q I rx ry ⟨hy, ?_⟩
    rw [← isNone_rep ra]
    exact give φ G H (Go.here S) _ (.d (.bl _))
  · cases e
end
end Vi

set_option maxHeartbeats 1000000
/-! Vi3: tests, choices, displays, subscripts, slices, arguments, built-in calls. -/
namespace Vi
open PySem PySem.Spec PyProof.Rows L2

/-! ### truth -/
def tru : Va → Sto → Option Bool
  | .d .none, _ => some false
  | .d (.bool b), _ => some b
  | .d (.int i), _ => some (i != 0)
  | .d (.str x), _ => if x.length ≤ sizeLine then some ((x.length : Int) != 0) else none
  | .d (.list ds), _ => some (!ds.isEmpty)
  | .d (.tuple ds), _ => some (!ds.isEmpty)
  | .d (.dict ds), _ => some (!ds.isEmpty)
  | .t xs, _ => some (!xs.isEmpty)
  | .s ns, _ => some (!ns.isEmpty)
  | .r i, st => match st.obs[i]? with
    | some (some (.l xs)) => some (!xs.isEmpty)
    | some (some (.m xs)) => some (!xs.isEmpty)
    | _ => none
theorem emp_of {α β : Type} {xs : List α} {ys : List β} (h : xs.length = ys.length) : (!xs.isEmpty) = !ys.isEmpty := by
  cases xs <;> cases ys <;> first | rfl | cases h
theorem RepKs.length {K : PySem.W.Frag} {G : Hp} : ∀ {d : List (PD × PD)} {v : List (Key × LV)}, RepKs K G d v → d.length = v.length
  | _, _, .nil => rfl
  | _, _, .ci _ b => by simp [RepKs.length b]
  | _, _, .cs _ b => by simp [RepKs.length b]
theorem RepKV.length {K : PySem.W.Frag} {φ : Nat → Addr} {n : Nat} {G : Hp} {κ : Type} : ∀ {x : List (κ × Va)} {v : List (κ × LV)}, RepKV K φ n G x v → x.length = v.length
  | _, _, .nil => rfl
  | _, _, .cons _ b => by simp [RepKV.length b]
theorem tru_rep {K : PySem.W.Frag} {φ : Nat → Addr} {G : Hp} {Bs : List Nat} {st : Sto} {H : Hp} (S : SimS K φ G Bs st H) {v : Va} {x : LV} {k : Bool} (r : RepV K φ st.n G v x) (e : tru v st = some k) : TruV K x H k := by
  cases r with
  | d r =>
    cases r with
    | non => cases e; rfl
    | bl b => cases e; rfl
    | int i => cases e; rfl
    | str z =>
      unfold tru at e
      dsimp only at e
      split at e
      · rename_i h
        cases e
        exact ⟨h, rfl⟩
      · cases e
    | lst s r =>
      cases e
      exact .inl ⟨_, .of (S.sub _ _ s), emp_of r.length⟩
    | tup s r =>
      cases e
      exact .inr (.inl ⟨_, sqT_mono S.sub s, emp_of r.length⟩)
    | dct s r =>
      cases e
      exact .inr (.inr ⟨_, S.sub _ _ s, emp_of r.length⟩)
  | @r i hi =>
    unfold tru at e
    dsimp only at e
    split at e
    · rename_i xs q
      cases e
      obtain ⟨_, ho, h1, h2⟩ := S.ob i _ q
      cases h2 with
      | l r => exact .inl ⟨_, .of h1, emp_of r.length⟩
    · rename_i xs q
      cases e
      obtain ⟨_, ho, h1, h2⟩ := S.ob i _ q
      cases h2 with
      | m r => exact .inr (.inr ⟨_, h1, emp_of r.length⟩)
    · cases e
  | t s r =>
    cases e
    exact .inr (.inl ⟨_, sqT_mono S.sub s, emp_of r.length⟩)
  | @s a ns h =>
    cases e
    exact .inl ⟨_, sqL_mono S.sub h, emp_of (by simp)⟩
def tT (f : SE) : ST := fun env st => (f env st).bind fun v s => lift ((tru v s).map fun k => (k, s))
def tB (f : SE) : ST := fun env st => (f env st).bind fun v s => match v with
  | .d (.bool k) => .ok k s
  | _ => .bad
def tAnd (a b : ST) : ST := fun env st => (a env st).bind fun k s => if k = true then b env s else .ok false s
def tOr (a b : ST) : ST := fun env st => (a env st).bind fun k s => if k = true then .ok true s else b env s
def tNot (a : ST) : ST := fun env st => (a env st).bind fun k s => .ok (!k) s
def sAnd (a b : SE) : SE := fun env st => (a env st).bind fun v s => (lift ((tru v s).map fun k => (k, s))).bind fun k s => if k = true then b env s else .ok v s
def sOr (a b : SE) : SE := fun env st => (a env st).bind fun v s => (lift ((tru v s).map fun k => (k, s))).bind fun k s => if k = true then .ok v s else b env s
def sNot (a : SE) : SE := fun env st => (a env st).bind fun v s => lift ((tru v s).map fun k => (.d (.bool (!k)), s))
def sIf (t : ST) (a b : SE) : SE := fun env st => (t env st).bind fun k s => if k = true then a env s else b env s
def sCh (g g' : O2) (a b c : SE) : SE := fun env st => (a env st).bind fun x s => (b env s).bind fun y s => (lift (g x y s)).bind fun z s => match z with
  | .d (.bool true) => (c env s).bind fun w s => lift (g' y w s)
  | .d (.bool false) => .ok (.d (.bool false)) s
  | _ => .bad
section
variable {X : Cx} {W : WX} {a b c e : Expr} {fa fb fc f : SE} {ta tb : ST} {rest : List Expr} {pos : Pos}
theorem blV {K : PySem.W.Frag} {φ : Nat → Addr} {n : Nat} {G : Hp} {i : Bool} {x : LV} (r : RepV K φ n G (.d (.bool i)) x) : x = .bl i := by
  cases r with
  | d r => cases r; rfl
theorem jt_t (h : JE X W e f) (he : ∀ whole, isTrue e X.env whole = (do let v ← whole; standAt e.pos; holding [v] (truthy v)) := by intro _; rfl) : JT X W e (tT f) := by
  refine jt_w (pt_truth h he) fun σ H Q ⟨φ, G, Bs, env, st, S, R, p⟩ => ?_
  refine ⟨φ, G, Bs, env, st, S, R, p.bind.imp fun v s φ1 G1 H1 g p1 lv r => ?_⟩
  obtain ⟨k, s', e, give⟩ := p1.at
  cases et : tru v s with
  | none => rw [et] at e; cases e
  | some k' =>
    rw [et] at e
    cases e
    exact ⟨_, tru_rep g.sim r et, give φ1 G1 H1 (Go.here g.sim)⟩
theorem tB_of {σ : L2.St} {H : Hp} {Q : Bool → Hp → Prop} (h : RT X W (tB f) σ H Q) : RE X W f σ H fun x H' => ∃ k, x = .bl k ∧ Q k H' := by
  obtain ⟨φ, G, Bs, env, st, S, R, p⟩ := h
  refine ⟨φ, G, Bs, env, st, S, R, p.bind.imp fun v s φ1 G1 H1 g p1 lv r => ?_⟩
  split at p1
  · exact ⟨_, blV r, p1 φ1 G1 H1 (Go.here g.sim)⟩
  · exact p1.elim
theorem jt_v (h : JE X W e f) (he : ∀ whole, isTrue e X.env whole = (do let v ← whole; standAt e.pos; holding [v] (truthy v)) := by intro _; rfl) : JT X W e (tB f) := jt_w (pt_val h he) fun _ _ _ => tB_of
theorem jt_cmp {op : CmpOp} {g : O2} (ho : JOp X (compareOp op) g) (ha : JE X W a fa) (hb : JE X W b fb) (hm : behindInMarks op b = false) : JT X W (.Compare a [op] [b] pos) (tB (s2 g fa fb)) := by
  refine jt_w (pt_cmpR ho ha hb hm) fun σ H Q h => ?_
  have h := tB_of h
  have ⟨φ, G, Bs, env, st, S, R, p⟩ := two_of (k := fun x y s => lift (g x y s)) h
  refine ⟨φ, G, Bs, env, st, S, R, p.imp fun va st1 φ1 G1 H1 g1 p1 lv r1 => ?_⟩
  have ⟨φ1, G1, Bs1, env1, st1, S1, R1, p1⟩ := p1 lv r1
  refine ⟨φ1, G1, Bs1, env1, st1, S1, R1, p1.imp fun vb st2 φ2 G2 H2 g2 p2 lv2 r2 => ?_⟩
  obtain ⟨φ, G, Bs, env, st, va, vb, S, R, r1, r2, p⟩ := p2 lv2 r2
  exact ⟨φ, G, Bs, st, va, vb, S, r1, r2, p.lifted⟩
/-- the reading of a chain -/
theorem ch_of {g g' : O2} {σ : L2.St} {H : Hp} {Q : VK} (h : RE X W (sCh g g' fa fb fc) σ H Q) : tChain (ROp X.K g) (ROp X.K g') (RE X W fa) (RE X W fb) (RE X W fc) σ H Q := by
  obtain ⟨φ, G, Bs, env, st, S, R, p⟩ := h
  refine ⟨φ, G, Bs, env, st, S, R, p.bind.imp fun va st1 φ1 G1 H1 g1 p1 lv r1 => ?_⟩
  refine ⟨φ1, G1, Bs, env, st1, g1.sim, g1.env R, p1.bind.imp fun vb st2 φ2 G2 H2 g2 p2 lv2 r2 => ?_⟩
  refine ⟨φ2, G2, Bs, st2, va, vb, g2.sim, g2.v r1, r2, ?_⟩
  refine p2.bind.lifted.imp fun vz st3 φ3 G3 H3 g3 p3 lv3 r3 => ?_
  split at p3
  · refine ⟨true, blV r3, ?_⟩
    rw [if_pos rfl]
    refine ⟨φ3, G3, Bs, env, st3, g3.sim, g3.env (g2.env (g1.env R)), p3.bind.imp fun vw st4 φ4 G4 H4 g4 p4 lv4 r4 => ?_⟩
    exact ⟨φ4, G4, Bs, st4, vb, vw, g4.sim, g4.v (g3.v r2), r4, p4.lifted⟩
  · refine ⟨false, blV r3, ?_⟩
    rw [if_neg Bool.false_ne_true]
    exact p3 φ3 G3 H3 (Go.here g3.sim) _ (.d (.bl _))
  · exact p3.elim
theorem je_ch {op op' : CmpOp} {g g' : O2} (ho : JOp X (compareOp op) g) (ho' : JOp X (compareOp op') g') (ha : JE X W a fa) (hb : JE X W b fb) (hc : JE X W c fc)
    (hm : lastMarks [op, op'] [b, c] = false := by with_unfolding_all rfl) : JE X W (.Compare a [op, op'] [b, c] pos) (sCh g g' fa fb fc) := je_w (pe_chain ho ho' ha hb hc hm) fun _ _ _ => ch_of
theorem jt_ch {op op' : CmpOp} {g g' : O2} (ho : JOp X (compareOp op) g) (ho' : JOp X (compareOp op') g') (ha : JE X W a fa) (hb : JE X W b fb) (hc : JE X W c fc)
    (hm : lastMarks [op, op'] [b, c] = false := by with_unfolding_all rfl) : JT X W (.Compare a [op, op'] [b, c] pos) (tB (sCh g g' fa fb fc)) := jt_w (pt_chain ho ho' ha hb hc hm) fun _ _ _ h => ch_of (tB_of h)
theorem jw_and1 (ha : JT X W a ta) : JW X W (.BoolOp .And [a] pos) ta := jw_w (pw_and1 ha) fun _ _ _ h => h
theorem jw_or1 (ha : JT X W a ta) : JW X W (.BoolOp .Or [a] pos) ta := jw_w (pw_or1 ha) fun _ _ _ h => h
theorem jw_and (ha : JT X W a ta) (hb : JW X W (.BoolOp .And (b :: rest) pos) tb) : JW X W (.BoolOp .And (a :: b :: rest) pos) (tAnd ta tb) := by
  refine jw_w (pw_and ha hb) fun σ H Q ⟨φ, G, Bs, env, st, S, R, p⟩ => ?_
  refine ⟨φ, G, Bs, env, st, S, R, p.bind.imp fun k s φ1 G1 H1 g p1 => ?_⟩
  cases k with
  | true => exact ⟨φ1, G1, Bs, env, s, g.sim, g.env R, p1⟩
  | false => exact p1 φ1 G1 H1 (Go.here g.sim)
theorem jw_or (ha : JT X W a ta) (hb : JW X W (.BoolOp .Or (b :: rest) pos) tb) : JW X W (.BoolOp .Or (a :: b :: rest) pos) (tOr ta tb) := by
  refine jw_w (pw_or ha hb) fun σ H Q ⟨φ, G, Bs, env, st, S, R, p⟩ => ?_
  refine ⟨φ, G, Bs, env, st, S, R, p.bind.imp fun k s φ1 G1 H1 g p1 => ?_⟩
  cases k with
  | false => exact ⟨φ1, G1, Bs, env, s, g.sim, g.env R, p1⟩
  | true => exact p1 φ1 G1 H1 (Go.here g.sim)
theorem jt_not (ha : JT X W a ta) : JT X W (.UnaryOp .Not a pos) (tNot ta) := by
  refine jt_w (pt_not ha) fun σ H Q ⟨φ, G, Bs, env, st, S, R, p⟩ => ?_
  exact ⟨φ, G, Bs, env, st, S, R, p.bind.imp fun k s φ1 G1 H1 g p1 => p1 φ1 G1 H1 (Go.here g.sim)⟩
theorem je_one {op} (ha : JE X W a fa) : JE X W (.BoolOp op [a] pos) fa := je_w (pe_one ha) fun _ _ _ h => h
theorem je_and (ha : JE X W a fa) (hb : JE X W (.BoolOp .And (b :: rest) pos) fb) : JE X W (.BoolOp .And (a :: b :: rest) pos) (sAnd fa fb) := by
  refine je_w (pe_andT ha hb) fun σ H Q ⟨φ, G, Bs, env, st, S, R, p⟩ => ?_
  refine ⟨φ, G, Bs, env, st, S, R, p.bind.imp fun v s φ1 G1 H1 g p1 lv r => ?_⟩
  obtain ⟨k, s', e, give⟩ := p1.bind.at
  cases et : tru v s with
  | none => rw [et] at e; cases e
  | some k' =>
    rw [et] at e
    cases e
    have give := give φ1 G1 H1 (Go.here g.sim)
    refine ⟨k, tru_rep g.sim r et, ?_⟩
    cases k with
    | true => exact ⟨φ1, G1, Bs, env, s, g.sim, g.env R, give⟩
    | false => exact give φ1 G1 H1 (Go.here g.sim) lv r
theorem je_or (ha : JE X W a fa) (hb : JE X W (.BoolOp .Or (b :: rest) pos) fb) : JE X W (.BoolOp .Or (a :: b :: rest) pos) (sOr fa fb) := by
  refine je_w (pe_orT ha hb) fun σ H Q ⟨φ, G, Bs, env, st, S, R, p⟩ => ?_
  refine ⟨φ, G, Bs, env, st, S, R, p.bind.imp fun v s φ1 G1 H1 g p1 lv r => ?_⟩
  obtain ⟨k, s', e, give⟩ := p1.bind.at
  cases et : tru v s with
  | none => rw [et] at e; cases e
  | some k' =>
    rw [et] at e
    cases e
    have give := give φ1 G1 H1 (Go.here g.sim)
    refine ⟨k, tru_rep g.sim r et, ?_⟩
    cases k with
    | false => exact ⟨φ1, G1, Bs, env, s, g.sim, g.env R, give⟩
    | true => exact give φ1 G1 H1 (Go.here g.sim) lv r
theorem je_not (ha : JE X W a fa) : JE X W (.UnaryOp .Not a pos) (sNot fa) := by
  refine je_w (pe_notT ha) fun σ H Q ⟨φ, G, Bs, env, st, S, R, p⟩ => ?_
  refine ⟨φ, G, Bs, env, st, S, R, p.bind.imp fun v s φ1 G1 H1 g p1 lv r => ?_⟩
  obtain ⟨k, s', e, give⟩ := p1.at
  cases et : tru v s with
  | none => rw [et] at e; cases e
  | some k' =>
    rw [et] at e
    cases e
    exact ⟨_, tru_rep g.sim r et, give φ1 G1 H1 (Go.here g.sim) _ (.d (.bl _))⟩
theorem je_if (ht : JT X W c ta) (ha : JE X W a fa) (hb : JE X W b fb) : JE X W (.IfExp c a b pos) (sIf ta fa fb) := by
  refine je_w (pe_ifExp ht ha hb) fun σ H Q ⟨φ, G, Bs, env, st, S, R, p⟩ => ?_
  refine ⟨φ, G, Bs, env, st, S, R, p.bind.imp fun k s φ1 G1 H1 g p1 => ?_⟩
  cases k with
  | true => exact ⟨φ1, G1, Bs, env, s, g.sim, g.env R, p1⟩
  | false => exact ⟨φ1, G1, Bs, env, s, g.sim, g.env R, p1⟩
end
/-! ### -a -/
def sNeg (a : SE) : SE := fun env st => (a env st).bind fun v s => match v with
  | .d (.int i) => .ok (.d (.int (-i))) s
  | _ => .bad
section
variable {X : Cx} {W : WX} {a : Expr} {fa : SE} {pos : Pos}
theorem je_neg (ha : JE X W a fa) : JE X W (.UnaryOp .USub a pos) (sNeg fa) := by
  refine je_w (pe_un un_neg ha) fun σ H Q ⟨φ, G, Bs, env, st, S, R, p⟩ => ?_
  refine ⟨φ, G, Bs, env, st, S, R, p.bind.imp fun v s φ1 G1 H1 g p1 lv r => ?_⟩
  split at p1
  · rename_i i
    exact ⟨i, intV r, p1 φ1 G1 H1 (Go.here g.sim) _ (.d (.int _))⟩
  · exact p1.elim
end
/-! ### arguments, displays -/
def aNil : SA := fun _ st => .ok [] st
def aCons (f : SE) (g : SA) : SA := fun env st => (f env st).bind fun v s => (g env s).bind fun vs s => .ok (v :: vs) s
def sTup (f : SA) : SE := fun env st => (f env st).bind fun vs s => if vs.length ≤ sizeLine then .ok (mkT vs) s else .bad
/-- a list that nobody writes -/
def sLst (f : SA) : SE := fun env st => (f env st).bind fun vs s => match allD vs with
  | some ds => if ds.length ≤ sizeLine then .ok (.d (.list ds)) s else .bad
  | none => .bad
/-- a list of the store -/
def sLstM (f : SA) : SE := fun env st => (f env st).bind fun vs s => if vs.length ≤ sizeLine then .ok (.r s.n) (s.push (.l vs)) else .bad
section
variable {X : Cx} {W : WX} {e : Expr} {es : List Expr} {f : SE} {g : SA} {pos : Pos}
theorem ja_nil : JA X W [] aNil := by
  refine ja_w pa_nil fun σ H Q ⟨φ, G, Bs, env, st, S, R, p⟩ => ?_
  exact p φ G H (Go.here S) [] .nil
theorem ja_cons (he : JE X W e f) (hr : JA X W es g) (hs : starEach (e :: es) X.env = (false, eval e X.env) :: starEach es X.env := by rfl) : JA X W (e :: es) (aCons f g) := by
  refine ja_w (pa_cons he hr hs) fun σ H Q ⟨φ, G, Bs, env, st, S, R, p⟩ => ?_
  refine ⟨φ, G, Bs, env, st, S, R, p.bind.imp fun v s φ1 G1 H1 g1 p1 lv r => ?_⟩
  refine ⟨φ1, G1, Bs, env, s, g1.sim, g1.env R, p1.bind.imp fun vs s2 φ2 G2 H2 g2 p2 lvs rs => ?_⟩
  exact p2 φ2 G2 H2 (Go.here g2.sim) _ (.cons (g2.v r) rs)
theorem je_tup {x1} (h : JA X W es g) : JE X W (.Tuple es x1 pos) (sTup g) := by
  refine je_w (pe_tup h) fun σ H Q ⟨φ, G, Bs, env, st, S, R, p⟩ => ?_
  refine ⟨φ, G, Bs, env, st, S, R, p.bind.imp fun vs s φ1 G1 H1 g1 p1 lvs r => ?_⟩
  split at p1
  · rename_i hz
    exact ⟨by rw [← r.length]; exact hz, fun p hp => laid_give g1.sim hp (fun G' sg e => mkT_rep (.of e) (r.mono (Nat.le_refl _) (fun _ _ => rfl) sg)) p1⟩
  · exact p1.elim
theorem je_lst (h : JA X W es g) : JE X W (.List es pos) (sLst g) := by
  refine je_w (pe_lst h) fun σ H Q ⟨φ, G, Bs, env, st, S, R, p⟩ => ?_
  refine ⟨φ, G, Bs, env, st, S, R, p.bind.imp fun vs s φ1 G1 H1 g1 p1 lvs r => ?_⟩
  split at p1
  · rename_i ds hd
    have rd := allD_rep hd r
    split at p1
    · rename_i hz
      exact ⟨by rw [← rd.length]; exact hz, fun p hp => laid_give g1.sim hp (fun G' sg e => .d (.lst e (rd.mono sg))) p1⟩
    · exact p1.elim
  · exact p1.elim
theorem je_lstM (h : JA X W es g) : JE X W (.List es pos) (sLstM g) := by
  refine je_w (pe_lst h) fun σ H Q ⟨φ, G, Bs, env, st, S, R, p⟩ => ?_
  refine ⟨φ, G, Bs, env, st, S, R, p.bind.imp fun vs s φ1 G1 H1 g1 p1 lvs r => ?_⟩
  split at p1
  · rename_i hz
    exact ⟨by rw [← r.length]; exact hz, fun p hp => made_give g1.sim hp (fun b hb _ => upd_ne hb) upd_same (.l r) p1⟩
  · exact p1.elim
end
/-! ### subscripts -/
def itemsV : Va → Sto → Option (List Va)
  | .d (.tuple ds), _ => some (ds.map .d)
  | .d (.list ds), _ => some (ds.map .d)
  | .t xs, _ => some xs
  | .s ns, _ => some (ns.map fun n => .d (.int n))
  | .r i, st => match st.obs[i]? with
    | some (some (.l xs)) => some xs
    | _ => none
  | _, _ => none
theorem ints_rep {K : PySem.W.Frag} {φ : Nat → Addr} {n : Nat} {G : Hp} : ∀ ns : List Int, RepVs K φ n G (ns.map fun n => .d (.int n)) (ns.map V.int)
  | [] => .nil
  | _ :: ns => .cons (.d (.int _)) (ints_rep ns)
theorem itemsV_rep {K : PySem.W.Frag} {φ : Nat → Addr} {G : Hp} {Bs : List Nat} {st : Sto} {H : Hp} (S : SimS K φ G Bs st H) {v : Va} {x : LV} {xs : List Va} (r : RepV K φ st.n G v x) (e : itemsV v st = some xs) : ∃ a ys, x = .ref a ∧ (SqL K H a ys ∨ SqT K H a ys) ∧ RepVs K φ st.n G xs ys := by
  cases r with
  | d r =>
    cases r with
    | lst s r =>
      cases e
      exact ⟨_, _, rfl, .inl (.of (S.sub _ _ s)), .of_data r⟩
    | tup s r =>
      cases e
      exact ⟨_, _, rfl, .inr (sqT_mono S.sub s), .of_data r⟩
    | _ => cases e
  | @r i hi =>
    unfold itemsV at e
    dsimp only at e
    split at e
    · rename_i xs q
      cases e
      obtain ⟨_, ho, h1, h2⟩ := S.ob i _ q
      cases h2 with
      | l r => exact ⟨_, _, rfl, .inl (.of h1), r⟩
    · cases e
  | t s r =>
    cases e
    exact ⟨_, _, rfl, .inr (sqT_mono S.sub s), r⟩
  | @s a ns h =>
    cases e
    exact ⟨_, _, rfl, .inl (sqL_mono S.sub h), ints_rep ns⟩
def oIx : O2 := fun x y st => match y with
  | .d (.int i) => (match x with
    | .d (.str z) => if z.length ≤ sizeLine then (atI z.cps.toList i).map fun c => (.d (.str ⟨#[c]⟩), st) else none
    | x => (itemsV x st).bind fun xs => (atI xs i).map fun v => (v, st))
  | _ => none
theorem atI_rep {K : PySem.W.Frag} {φ : Nat → Addr} {n : Nat} {G : Hp} {xs : List Va} {ys : List LV} {i : Int} {x : Va} (r : RepVs K φ n G xs ys) (e : atI xs i = some x) : ∃ y, atI ys i = some y ∧ RepV K φ n G x y := by
  unfold atI at e ⊢
  rw [r.length] at e
  cases q : ixN ys.length i with
  | none => rw [q] at e; cases e
  | some j =>
    rw [q] at e
    exact r.get e
section
variable {X : Cx} {W : WX} {a b : Expr} {fa fb : SE} {pos p2 : Pos}
def JIx (X : Cx) (g : O2) : Prop := IxR X (ROp X.K g)
theorem ix_all : JIx X oIx := by
  intro value slice pins s σ H x y v u Q I rx ry ⟨φ, G, Bs, st, a, b, S, ra, rb, p⟩ hs
  obtain ⟨c, s', e, give⟩ := p.at
  unfold oIx at e
  split at e
  · rename_i i
    have e2 := intV rb
    subst e2
    split at e
    · rename_i z
      have e1 := strV ra
      subst e1
      split at e
      · rename_i hz
        cases ea : atI z.cps.toList i with
        | none => rw [ea] at e; cases e
        | some k =>
          rw [ea] at e
          cases e
          exact ix_str value slice pins s σ H _ _ v u Q I rx ry ⟨z, i, k, rfl, rfl, hz, ea, give φ G H (Go.here S) _ (.d (.str _))⟩ hs
      · cases e
    · cases ei : itemsV a st with
      | none => rw [ei] at e; cases e
      | some xs =>
        rw [ei] at e
        cases ea : atI xs i with
        | none => rw [Option.bind_some, ea] at e; cases e
        | some k =>
          rw [Option.bind_some, ea] at e
          cases e
          obtain ⟨p, ys, rfl, sq, r⟩ := itemsV_rep S ra ei
          obtain ⟨w, h1, h2⟩ := atI_rep r ea
          rcases sq with sq | sq
          · exact ix_list value slice pins s σ H _ _ v u Q I rx ry ⟨p, ys, i, w, rfl, rfl, sq, h1, give φ G H (Go.here S) _ h2⟩ hs
          · exact ix_tup value slice pins s σ H _ _ v u Q I rx ry ⟨p, ys, i, w, rfl, rfl, sq, h1, give φ G H (Go.here S) _ h2⟩ hs
  · cases e
theorem je_ix {g : O2} (hg : JIx X g) (ha : JE X W a fa) (hb : JE X W b fb) (hs : PlainIx b) : JE X W (.Subscript a b pos) (s2 g fa fb) := by
  refine je_w (pe_ix hg ha hb hs) fun σ H Q h => ?_
  have ⟨φ, G, Bs, env, st, S, R, p⟩ := two_of (k := fun x y s => lift (g x y s)) h
  refine ⟨φ, G, Bs, env, st, S, R, p.imp fun va st1 φ1 G1 H1 g1 p1 lv r1 => ?_⟩
  have ⟨φ1, G1, Bs1, env1, st1, S1, R1, p1⟩ := p1 lv r1
  refine ⟨φ1, G1, Bs1, env1, st1, S1, R1, p1.imp fun vb st2 φ2 G2 H2 g2 p2 lv2 r2 => ?_⟩
  obtain ⟨φ, G, Bs, env, st, va, vb, S, R, r1, r2, p⟩ := p2 lv2 r2
  exact ⟨φ, G, Bs, st, va, vb, S, r1, r2, p.lifted⟩
end
/-! ### slices -/
abbrev SO := Ev → Sto → Res (Option Int)
def oNo : SO := fun _ st => .ok none st
def oSo (f : SE) : SO := fun env st => (f env st).bind fun v s => match v with
  | .d (.int i) => .ok (some i) s
  | _ => .bad
def cutA {α : Type} (xs : List α) (lo hi : Option Int) : List α := (xs.drop (HT.sIx xs.length 0 lo)).take (HT.sIx xs.length xs.length hi - HT.sIx xs.length 0 lo)
def oSl : Va → Option Int → Option Int → Option Va := fun x lo hi => match x with
  | .d (.list ds) => some (.d (.list (cutA ds lo hi)))
  | .d (.tuple ds) => some (.d (.tuple (cutA ds lo hi)))
  | .s ns => some (.d (.list ((cutA ns lo hi).map .int)))
  | .d (.str z) => if z.length ≤ sizeLine then some (.d (.str (cutS z lo hi))) else none
  | _ => none
/-- a slice of a list of the store -/
def oSlM : Va → Option Int → Option Int → Sto → Option Va := fun x lo hi st => match x with
  | .r i => (match st.obs[i]? with
    | some (some (.l xs)) => (allD xs).map fun ds => .d (.list (cutA ds lo hi))
    | _ => none)
  | x => oSl x lo hi
def sSl (a : SE) (l h : SO) : SE := fun env st => (a env st).bind fun x s => (l env s).bind fun lo s => (h env s).bind fun hi s => lift ((oSlM x lo hi s).map fun v => (v, s))
end Vi

set_option maxHeartbeats 1000000
/-! Vi4: slices, built-in calls, targets, statements. -/
namespace Vi
open PySem PySem.Spec PyProof.Rows L2

/-! ### slices -/
def RO (X : Cx) (W : WX) (f : SO) : TO := fun σ H Q => ∃ φ G Bs env st, SimS X.K φ G Bs st H ∧ EnvR X.K φ st.n G env σ ∧ Post X.K (fun c d H => W c d σ H) Bs φ G st H (f env st) (fun b _ _ _ H => Q b H)
def JO (X : Cx) (W : WX) (e : Option Expr) (f : SO) : Prop := PO X e (RO X W f)
def RSl (K : PySem.W.Frag) : LV → Option Int → Option Int → Hp → VK → Prop := fun x lo hi H Q => ∃ φ G Bs st a, SimS K φ G Bs st H ∧ RepV K φ st.n G a x ∧ Post K E0 Bs φ G st H (lift ((oSlM a lo hi st).map fun v => (v, st))) (giveV K Q)
theorem cutA_rep {K : PySem.W.Frag} {G : Hp} {ds : List PD} {xs : List LV} {lo hi : Option Int} (r : RepDs K G ds xs) : RepDs K G (cutA ds lo hi) (cutV xs lo hi) := by
  unfold cutA cutV
  rw [r.length]
  exact (r.drop _).take _
theorem cut_int {K : PySem.W.Frag} {G : Hp} : ∀ ns : List Int, RepDs K G (ns.map .int) (ns.map V.int)
  | [] => .nil
  | _ :: ns => .cons (.int _) (cut_int ns)
section
variable {X : Cx} {W : WX} {e : Expr} {f : SE} {lo hi : Option Expr} {fl fh : SO} {pos p2 : Pos}
theorem jo_no : JO X W none oNo := ⟨fun pins s σ H Q I ⟨φ, G, Bs, env, st, S, R, p⟩ => po_none.run pins s σ H Q I (p φ G H (Go.here S))⟩
theorem jo_so (h : JE X W e f) : JO X W (some e) (oSo f) := by
  refine ⟨fun pins s σ H Q I ⟨φ, G, Bs, env, st, S, R, p⟩ => (po_some h).run pins s σ H Q I ?_⟩
  refine ⟨φ, G, Bs, env, st, S, R, p.bind.imp fun v s φ1 G1 H1 g p1 lv r => ?_⟩
  split at p1
  · exact ⟨_, intV r, p1 φ1 G1 H1 (Go.here g.sim)⟩
  · exact p1.elim
theorem sl_all : SlR X (RSl X.K) := by
  intro pins s σ H x v vl vu lo hi sl Q I rx hs pl pu ⟨φ, G, Bs, st, a, S, ra, p⟩
  obtain ⟨c, s', e, give⟩ := p.at
  cases eo : oSlM a lo hi st with
  | none => rw [eo] at e; cases e
  | some w =>
    rw [eo] at e
    cases e
    have lists : ∀ {l : Addr} {xs : List LV} {ds : List PD}, x = .ref l → SqL X.K H l xs → RepDs X.K G ds xs → c = .d (.list (cutA ds lo hi)) → ∃ T id, typeLookup (.type T) "__getitem__" = pure (some (.builtin id)) ∧ s.TypeIs v T ∧ wpAny (model X.prog X.w) X.A (getItem v (.ref sl)) (EP X pins σ Q) X.xe s := fun {l xs ds} ex h1 r ec => by
      subst ec
      exact sl_list pins s σ H x v vl vu lo hi sl Q I rx hs pl pu ⟨l, xs, ex, h1, fun p hp => laid_give S hp (fun G' sg e => .d (.lst e ((cutA_rep r).mono sg))) give⟩
    cases ra with
    | d r =>
      cases r with
      | lst h1 r =>
        exact lists rfl (.of (S.sub _ _ h1)) r (Option.some.inj eo).symm
      | @tup l xs ds h1 r =>
        have eo : some (Va.d (.tuple (cutA ds lo hi))) = some c := eo
        cases eo
        refine sl_tupA pins s σ H _ v vl vu lo hi sl Q I rx hs pl pu ⟨l, xs, rfl, sqT_mono S.sub h1, fun hw => ?_, fun hw p hp => ?_⟩
        · have : cutA ds lo hi = ds := by
            unfold cutA
            rw [r.length, hw.1, hw.2, List.drop_zero, Nat.sub_zero, ← r.length, List.take_length]
          rw [this] at give
          exact give φ G H (Go.here S) _ (.d (.tup h1 r))
        · exact laid_give S hp (fun G' sg e => .d (.tup (.of e) ((cutA_rep r).mono sg))) give
      | str z =>
        have eo : (if z.length ≤ sizeLine then some (Va.d (.str (cutS z lo hi))) else none) = some c := eo
        split at eo
        · rename_i hz
          cases eo
          exact sl_str pins s σ H _ v vl vu lo hi sl Q I rx hs pl pu ⟨z, rfl, hz, give φ G H (Go.here S) _ (.d (.str _))⟩
        · cases eo
      | _ => cases eo
    | @r i hi =>
      unfold oSlM at eo
      dsimp only at eo
      split at eo
      · rename_i xs q
        obtain ⟨_, ho, h1, h2⟩ := S.ob i _ q
        cases h2 with
        | l r =>
          cases hd : allD xs with
          | none => rw [hd] at eo; cases eo
          | some ds =>
            rw [hd] at eo
            cases eo
            exact lists rfl (.of h1) (allD_rep hd r) rfl
      · cases eo
    | t _ _ => cases eo
    | @s l ns h1 =>
      have eo : some (Va.d (.list ((cutA ns lo hi).map .int))) = some c := eo
      cases eo
      refine lists (ds := ns.map .int) rfl (sqL_mono S.sub h1) (cut_int ns) ?_
      unfold cutA
      rw [List.length_map, List.map_take, List.map_drop]
theorem je_sl (he : JE X W e f) (hl : JO X W lo fl) (hu : JO X W hi fh) : JE X W (.Subscript e (.Slice lo hi none p2) pos) (sSl f fl fh) := by
  refine je_w (pe_slice sl_all he hl hu) fun σ H Q ⟨φ, G, Bs, env, st, S, R, p⟩ => ?_
  refine ⟨φ, G, Bs, env, st, S, R, p.bind.imp fun v s φ1 G1 H1 g1 p1 lv r1 => ?_⟩
  refine ⟨φ1, G1, Bs, env, s, g1.sim, g1.env R, p1.bind.imp fun o s2 φ2 G2 H2 g2 p2 => ?_⟩
  refine ⟨φ2, G2, Bs, env, s2, g2.sim, g2.env (g1.env R), p2.bind.imp fun o s3 φ3 G3 H3 g3 p3 => ?_⟩
  exact ⟨φ3, G3, Bs, s3, v, g3.sim, g3.v (g2.v r1), p3.lifted⟩
end

/-! ### built-in calls by values -/
abbrev ON := List Va → Sto → Option (Va × Sto)
def RCl (K : PySem.W.Frag) (g : ON) : List LV → Hp → VK → Prop := fun xs H Q => ∃ φ G Bs st as, SimS K φ G Bs st H ∧ RepVs K φ st.n G as xs ∧ Post K E0 Bs φ G st H (lift (g as st)) (giveV K Q)
def JCl (X : Cx) (f : Value) (g : ON) : Prop := CallR X f (RCl X.K g)
def sCl (g : ON) (a : SA) : SE := fun env st => (a env st).bind fun vs s => lift (g vs s)
section
variable {X : Cx} {W : WX} {x : Str} {p pos : Pos} {e : Expr} {es : List Expr} {fa : SA} {g : ON} {id T : String}
theorem cl_of {σ : L2.St} {H : Hp} {Q : VK} (h : RE X W (sCl g fa) σ H Q) : RA X W fa σ H fun vs H1 => RCl X.K g vs H1 Q := by
  obtain ⟨φ, G, Bs, env, st, S, R, p⟩ := h
  refine ⟨φ, G, Bs, env, st, S, R, p.bind.imp fun vs s φ1 G1 H1 g1 p1 lvs r => ?_⟩
  exact ⟨φ1, G1, Bs, s, vs, g1.sim, r, p1.lifted⟩
theorem je_cB (hc : JCl X (.builtin id) g) (hg : Gl X x) (hm : X.mg x = none) (hv : bootBuiltins x = some (.builtin id)) (ha : JA X W (e :: es) fa) (hn : x ≠ "__name__" := by decide) (hdb : (x == ("__debug__" : Str)) = false := by decide)
    (he : starEach (e :: es) X.env = (false, eval e X.env) :: starEach es X.env := by rfl) (hpl : (backTo pos (starEach es X.env)).any (·.1) = false := by rfl) : JE X W (.Call (.Name x p) (e :: es) [] pos) (sCl g fa) :=
  je_w (pe_callB hc hg hm hv ha hn hdb he hpl) fun _ _ _ => cl_of
theorem je_cT (hc : JCl X (.type T) g) (hg : Gl X x) (hm : X.mg x = none) (hv : bootBuiltins x = some (.type T)) (ha : JA X W (e :: es) fa) (hn : x ≠ "__name__" := by decide) (hdb : (x == ("__debug__" : Str)) = false := by decide)
    (he : starEach (e :: es) X.env = (false, eval e X.env) :: starEach es X.env := by rfl) (hpl : (backTo pos (starEach es X.env)).any (·.1) = false := by rfl) : JE X W (.Call (.Name x p) (e :: es) [] pos) (sCl g fa) :=
  je_w (pe_callTy hc hg hm hv ha hn hdb he hpl) fun _ _ _ => cl_of
/-- by what it answers -/
theorem jcl {f : Value} (h : ∀ (pins : List (Addr × Obj)) (s : Shared) (σ : L2.St) (H : Hp) (xs : List LV) (us : List Value) (Q : VK) φ G Bs (st : Sto) as c s', Inv X pins σ H s → Vals xs us →
    SimS X.K φ G Bs st H → RepVs X.K φ st.n G as xs → g as st = some (c, s') → (∀ φ' G' H', Go X.K Bs φ G st H φ' G' s' H' → ∀ lv, RepV X.K φ' s'.n G' c lv → Q lv H') → wpAny (model X.prog X.w) X.A (call f us) (EP X pins σ Q) X.xe s) : JCl X f g := by
  intro pins s σ H xs us Q I rx ⟨φ, G, Bs, st, as, S, ra, p⟩
  obtain ⟨c, s', e, give⟩ := p.at
  exact h pins s σ H xs us Q φ G Bs st as c s' I rx S ra e give
def cLen : ON := fun vs st => match vs with
  | [.d (.str z)] => if z.length ≤ sizeLine then some (.d (.int z.length), st) else none
  | [v] => (itemsV v st).map fun xs => (.d (.int xs.length), st)
  | _ => none
def cAbs : ON := fun vs st => match vs with
  | [.d (.int i)] => some (.d (.int (if i < 0 then -i else i)), st)
  | _ => none
def cMax : ON := fun vs st => match vs with
  | [.d (.int i), .d (.int j)] => some (.d (.int (if j > i then j else i)), st)
  | _ => none
def cMin : ON := fun vs st => match vs with
  | [.d (.int i), .d (.int j)] => some (.d (.int (if j < i then j else i)), st)
  | _ => none
def cInt : ON := fun vs st => match vs with
  | [.d (.int i)] => some (.d (.int i), st)
  | [.d (.bool k)] => some (.d (.int (if k then 1 else 0)), st)
  | _ => none
def cTup : ON := fun vs st => match vs with
  | [.d (.tuple ds)] => some (.d (.tuple ds), st)
  | [.d (.list ds)] => some (.d (.tuple ds), st)
  | [.r i] => (match st.obs[i]? with
    | some (some (.l xs)) => some (mkT xs, st)
    | _ => none)
  | _ => none
/-- list(x): one that nobody writes -/
def cLst : ON := fun vs st => match vs with
  | [v] => (itemsV v st).bind fun xs => (allD xs).map fun ds => (.d (.list ds), st)
  | _ => none
/-- list(x): one of the store -/
def cLstM : ON := fun vs st => match vs with
  | [v] => (itemsV v st).map fun xs => (.r st.n, st.push (.l xs))
  | _ => none
theorem one_rep {K : PySem.W.Frag} {φ : Nat → Addr} {n : Nat} {G : Hp} {a : Va} {xs : List LV} (r : RepVs K φ n G [a] xs) : ∃ x, xs = [x] ∧ RepV K φ n G a x := by
  cases r with
  | cons r1 r2 => cases r2; exact ⟨_, rfl, r1⟩
theorem two_rep {K : PySem.W.Frag} {φ : Nat → Addr} {n : Nat} {G : Hp} {a b : Va} {xs : List LV} (r : RepVs K φ n G [a, b] xs) : ∃ x y, xs = [x, y] ∧ RepV K φ n G a x ∧ RepV K φ n G b y := by
  cases r with
  | cons r1 r2 =>
    obtain ⟨y, rfl, r3⟩ := one_rep r2
    exact ⟨_, _, rfl, r1, r3⟩
theorem jc_len : JCl X (.builtin "len") cLen := by
  refine jcl fun pins s σ H xs us Q φ G Bs st as c s' I rx S ra e give => ?_
  unfold cLen at e
  split at e
  · split at e
    · rename_i hz
      cases e
      obtain ⟨x, rfl, r⟩ := one_rep ra
      have := strV r
      subst this
      exact call_len pins s σ H _ us Q I rx ⟨_, _, rfl, ⟨hz, rfl⟩, give φ G H (Go.here S) _ (.d (.int _))⟩
    · cases e
  · rename_i v _
    cases ei : itemsV v st with
    | none => rw [ei] at e; cases e
    | some ys =>
      rw [ei] at e
      cases e
      obtain ⟨x, rfl, r⟩ := one_rep ra
      obtain ⟨a, zs, rfl, sq, r⟩ := itemsV_rep S r ei
      refine call_len pins s σ H _ us Q I rx ⟨_, ys.length, rfl, ?_, give φ G H (Go.here S) _ (.d (.int _))⟩
      rw [r.length]
      rcases sq with sq | sq
      · exact .inl ⟨_, sq, rfl⟩
      · exact .inr ⟨_, sq, rfl⟩
  · cases e
theorem jc_abs : JCl X (.builtin "abs") cAbs := by
  refine jcl fun pins s σ H xs us Q φ G Bs st as c s' I rx S ra e give => ?_
  unfold cAbs at e
  split at e
  · cases e
    obtain ⟨x, rfl, r⟩ := one_rep ra
    have := intV r
    subst this
    exact call_abs pins s σ H _ us Q I rx ⟨_, rfl, give φ G H (Go.here S) _ (.d (.int _))⟩
  · cases e
theorem jc_max (F : Fit X) : JCl X (.builtin "max") cMax := by
  refine jcl fun pins s σ H xs us Q φ G Bs st as c s' I rx S ra e give => ?_
  unfold cMax at e
  split at e
  · cases e
    obtain ⟨x, y, rfl, r1, r2⟩ := two_rep ra
    have e1 := intV r1
    have e2 := intV r2
    subst e1 e2
    exact call_max2 F.calm pins s σ H _ us Q I rx ⟨_, _, rfl, give φ G H (Go.here S) _ (.d (.int _))⟩
  · cases e
theorem jc_min (F : Fit X) : JCl X (.builtin "min") cMin := by
  refine jcl fun pins s σ H xs us Q φ G Bs st as c s' I rx S ra e give => ?_
  unfold cMin at e
  split at e
  · cases e
    obtain ⟨x, y, rfl, r1, r2⟩ := two_rep ra
    have e1 := intV r1
    have e2 := intV r2
    subst e1 e2
    exact call_min2 F.calm pins s σ H _ us Q I rx ⟨_, _, rfl, give φ G H (Go.here S) _ (.d (.int _))⟩
  · cases e
theorem jc_int : JCl X (.type "int") cInt := by
  refine jcl fun pins s σ H xs us Q φ G Bs st as c s' I rx S ra e give => ?_
  unfold cInt at e
  split at e
  · cases e
    obtain ⟨x, rfl, r⟩ := one_rep ra
    have := intV r
    subst this
    exact call_int1 pins s σ H _ us Q I rx (.inl ⟨_, rfl, give φ G H (Go.here S) _ (.d (.int _))⟩)
  · cases e
    obtain ⟨x, rfl, r⟩ := one_rep ra
    have := blV r
    subst this
    exact call_int1 pins s σ H _ us Q I rx (.inr ⟨_, rfl, give φ G H (Go.here S) _ (.d (.int _))⟩)
  · cases e
theorem jc_tup : JCl X (.type "tuple") cTup := by
  refine jcl fun pins s σ H xs us Q φ G Bs st as c s' I rx S ra e give => ?_
  unfold cTup at e
  split at e
  · cases e
    obtain ⟨x, rfl, r⟩ := one_rep ra
    obtain ⟨a, ys, rfl, h1, rr⟩ := tupV r
    exact call_tuple_of pins s σ H _ us Q I rx ⟨a, ys, rfl, .inr ⟨sqT_mono S.sub h1, give φ G H (Go.here S) _ (.d (.tup h1 rr))⟩⟩
  · cases e
    obtain ⟨x, rfl, r⟩ := one_rep ra
    cases r with
    | d r =>
      cases r with
      | lst h1 rr =>
        exact call_tuple_of pins s σ H _ us Q I rx ⟨_, _, rfl, .inl ⟨.of (S.sub _ _ h1), fun p hp => laid_give S hp (fun G' sg e => .d (.tup (.of e) (rr.mono sg))) give⟩⟩
  · split at e
    · rename_i xs q
      cases e
      obtain ⟨x, rfl, r⟩ := one_rep ra
      obtain ⟨_, ho, h1, h2⟩ := S.ob _ _ q
      cases r
      cases h2 with
      | l r => exact call_tuple_of pins s σ H _ us Q I rx ⟨_, _, rfl, .inl ⟨.of h1, fun p hp => laid_give S hp (fun G' sg e => mkT_rep (.of e) (r.mono (Nat.le_refl _) (fun _ _ => rfl) sg)) give⟩⟩
    · cases e
  · cases e
theorem jc_lst : JCl X (.type "list") cLst := by
  refine jcl fun pins s σ H xs us Q φ G Bs st as c s' I rx S ra e give => ?_
  unfold cLst at e
  split at e
  · rename_i v
    cases ei : itemsV v st with
    | none => rw [ei] at e; cases e
    | some ys =>
      rw [ei, Option.bind_some] at e
      cases hd : allD ys with
      | none => rw [hd] at e; cases e
      | some ds =>
        rw [hd] at e
        cases e
        obtain ⟨x, rfl, r⟩ := one_rep ra
        obtain ⟨a, zs, rfl, sq, r⟩ := itemsV_rep S r ei
        exact call_list_of pins s σ H _ us Q I rx ⟨a, zs, rfl, sq, fun p hp => laid_give S hp (fun G' sg e => .d (.lst e ((allD_rep hd r).mono sg))) give⟩
  · cases e
theorem jc_lstM : JCl X (.type "list") cLstM := by
  refine jcl fun pins s σ H xs us Q φ G Bs st as c s' I rx S ra e give => ?_
  unfold cLstM at e
  split at e
  · rename_i v
    cases ei : itemsV v st with
    | none => rw [ei] at e; cases e
    | some ys =>
      rw [ei] at e
      cases e
      obtain ⟨x, rfl, r⟩ := one_rep ra
      obtain ⟨a, zs, rfl, sq, r⟩ := itemsV_rep S r ei
      exact call_list_of pins s σ H _ us Q I rx ⟨a, zs, rfl, sq, fun p hp => made_give S hp (fun b hb _ => upd_ne hb) upd_same (.l r) give⟩
  · cases e
end

/-! ### targets -/
abbrev SG := Va → Ev → Sto → Option Ev
abbrev SGs := List Va → Ev → Sto → Option Ev
/-- but the slots told all stand -/
def Off (is : List Nat) (σ σ' : L2.St) : Prop := σ'.length = σ.length ∧ ∀ i, i ∉ is → σ'[i]? = σ[i]?
def RG (K : PySem.W.Frag) (is : List Nat) (t : SG) : TG := fun v σ H Q => ∃ φ G Bs env st a e', SimS K φ G Bs st H ∧ EnvR K φ st.n G env σ ∧ RepV K φ st.n G a v ∧ t a env st = some e' ∧ ∀ σ', EnvR K φ st.n G e' σ' → Off is σ σ' → Q σ' H
def RGs (K : PySem.W.Frag) (is : List Nat) (t : SGs) : TGs := fun vs σ H Q => ∃ φ G Bs env st as e', SimS K φ G Bs st H ∧ EnvR K φ st.n G env σ ∧ RepVs K φ st.n G as vs ∧ t as env st = some e' ∧ ∀ σ', EnvR K φ st.n G e' σ' → Off is σ σ' → Q σ' H
def JG (X : Cx) (e : Expr) (is : List Nat) (t : SG) : Prop := PG X e (RG X.K is t)
def JGs (X : Cx) (es : List Expr) (is : List Nat) (t : SGs) : Prop := PGs X es (RGs X.K is t)
theorem Off.refl {is : List Nat} {σ : L2.St} : Off is σ σ := ⟨rfl, fun _ _ => rfl⟩
theorem Off.set {σ : L2.St} {i : Nat} {v : Option LV} : Off [i] σ (σ.set i v) := ⟨List.length_set, fun j hj => List.getElem?_set_ne (fun e => hj (by rw [e]; exact List.mem_singleton.mpr rfl))⟩
theorem Off.app {is js : List Nat} {σ σ1 σ2 : L2.St} (a : Off is σ σ1) (b : Off js σ1 σ2) : Off (is ++ js) σ σ2 :=
  ⟨b.1.trans a.1, fun i hi => (b.2 i fun z => hi (List.mem_append_right _ z)).trans (a.2 i fun z => hi (List.mem_append_left _ z))⟩
def gN (i : Nat) : SG := fun v env _ => some (env.set i (some v))
def gsN : SGs := fun vs env _ => match vs with
  | [] => some env
  | _ => none
def gsC (t : SG) (u : SGs) : SGs := fun vs env st => match vs with
  | v :: r => (t v env st).bind fun e => u r e st
  | [] => none
def gT (n : Nat) (t : SGs) : SG := fun v env st => (itemsV v st).bind fun xs => if xs.length = n then t xs env st else none
section
variable {X : Cx} {e : Expr} {es : List Expr} {pos : Pos} {t : SG} {u : SGs}
theorem jg_n {i : Nat} {x : Str} (hN : X.N.Nodup) (hi : X.N[i]? = some x := by rfl) (hx : Loc X.env.scope x := by first | exact .inl rfl | exact .inr rfl) (hf : X.fn x = true ∨ X.env.scope.names.lookup x = some .local := by first | exact .inl rfl | exact .inr rfl | assumption) : JG X (.Name x pos) [i] (gN i) := by
  refine ⟨fun pins s σ H v u Q I r ⟨φ, G, Bs, env, st, a, e', S, R, ra, ee, q⟩ => (pg_name hN hi hx hf).run pins s σ H v u Q I r ?_⟩
  cases ee
  exact q _ (R.set i ra) .set
theorem jgs_n : JGs X [] [] gsN := by
  refine ⟨fun pins s σ H vs us Q I r ⟨φ, G, Bs, env, st, as, e', S, R, ra, ee, q⟩ => pgs_nil.run pins s σ H vs us Q I r ?_⟩
  unfold gsN at ee
  split at ee
  · cases ee
    cases ra
    exact ⟨rfl, q σ R .refl⟩
  · cases ee
theorem jgs_c {is js : List Nat} (h1 : JG X e is t) (h2 : JGs X es js u) (hs : (assignEach (e :: es) X.env).map (·.2) = assign e X.env :: (assignEach es X.env).map (·.2) := by rfl) : JGs X (e :: es) (is ++ js) (gsC t u) := by
  refine ⟨fun pins s σ H vs us Q I r ⟨φ, G, Bs, env, st, as, e', S, R, ra, ee, q⟩ => (pgs_cons h1 h2 hs).run pins s σ H vs us Q I r ?_⟩
  unfold gsC at ee
  split at ee
  · rename_i v rest
    cases et : t v env st with
    | none => rw [et] at ee; cases ee
    | some e1 =>
      rw [et, Option.bind_some] at ee
      cases ra with
      | cons r1 r2 => exact ⟨_, _, rfl, φ, G, Bs, env, st, v, e1, S, R, r1, et, fun σ1 R1 o1 => ⟨φ, G, Bs, e1, st, rest, e', S, R1, r2, ee, fun σ2 R2 o2 => q σ2 R2 (o1.app o2)⟩⟩
  · cases ee
theorem jg_t {k n : Nat} {is : List Nat} (hc : X.calm = true) (h : JGs X es is u) (hn : (assignEach es X.env).length = n := by rfl) (hst : (assignEach es X.env).findIdx? (·.1) = none := by rfl) : JG X (.Tuple es k pos) is (gT n u) := by
  refine ⟨fun pins s σ H v uu Q I r ⟨φ, G, Bs, env, st, a, e', S, R, ra, ee, q⟩ => ?_⟩
  unfold gT at ee
  cases ei : itemsV a st with
  | none => rw [ei] at ee; cases ee
  | some xs =>
    rw [ei, Option.bind_some] at ee
    split at ee
    · rename_i hl
      obtain ⟨p, ys, rfl, sq, rr⟩ := itemsV_rep S ra ei
      have go : RGs X.K is u ys σ H Q := ⟨φ, G, Bs, env, st, xs, e', S, R, rr, ee, q⟩
      rcases sq with sq | sq
      · exact (pg_lst hc h hn hst).run pins s σ H _ uu Q I r ⟨p, ys, rfl, sq, rr.length ▸ hl, go⟩
      · exact (pg_tup hc h hn hst).run pins s σ H _ uu Q I r ⟨p, ys, rfl, sq, rr.length ▸ hl, go⟩
    · cases ee
end

/-! ### statements -/
def toS {α : Type} (r : Res α) (env : Ev) (k : α → Sto → Res Out) : Res Out := match r with
  | .ok a s => k a s
  | .exn c x s => .ok (.ex c x env) s
  | .bad => .bad
theorem Post.toS {α : Type} {K : PySem.W.Frag} {W : WX} {Bs : List Nat} {φ : Nat → Addr} {G : Hp} {st : Sto} {r : Res α} {env : Ev} {σ : L2.St} {H : Hp} {k : α → Sto → Res Out} {D : Ends} (p : Post K E0 Bs φ G st H (toS r env k) (giveO K W D)) (R : EnvR K φ st.n G env σ) :
    Post K (fun c d H => W c d σ H) Bs φ G st H r (fun a s φ' G' H' => Post K E0 Bs φ' G' s H' (k a s) (giveO K W D)) := by
  cases r with
  | ok a s => exact fun φ2 G2 H2 g2 => Post.move (r := k a s) p g2
  | exn c x s => exact fun φ2 G2 H2 dd lv g2 hd rv => p φ2 G2 H2 g2 σ dd lv (g2.env R) hd rv
  | bad => exact p
def xNil : SS := fun env st => .ok (.nx env) st
def xSeq (a b : SS) : SS := fun env st => (a env st).bind fun o s => match o with
  | .nx e => b e s
  | o => .ok o s
def xRet (f : SE) : SS := fun env st => toS (f env st) env fun v s => .ok (.rt v) s
def xRetN : SS := fun _ st => .ok (.rt (.d .none)) st
def xExp (f : SE) : SS := fun env st => toS (f env st) env fun _ s => .ok (.nx env) s
def xSet (i : Nat) (f : SE) : SS := fun env st => toS (f env st) env fun v s => .ok (.nx (env.set i (some v))) s
def xAsg (f : SE) (t : SG) : SS := fun env st => toS (f env st) env fun v s => match t v env s with
  | some e => .ok (.nx e) s
  | none => .bad
def xPar (i j : Nat) (f : SA) : SS := fun env st => toS (f env st) env fun vs s => match vs with
  | [v, w] => .ok (.nx ((env.set i (some v)).set j (some w))) s
  | _ => .bad
def xIf (t : ST) (a b : SS) : SS := fun env st => toS (t env st) env fun k s => if k = true then a env s else b env s
def xBad : SS := fun _ _ => .bad
def xBrk : SS := fun env st => .ok (.bk env) st
def xCnt : SS := fun env st => .ok (.ct env) st
section
variable {X : Cx} {W : WX} {e : Expr} {f : SE} {t : ST} {a b : SS} {s : Stmt} {ss tt : List Stmt} {pos : Pos}
theorem jb_nil : JB X W [] xNil := by
  refine jb_w pss_nil fun D σ H ⟨φ, G, Bs, env, st, S, R, p⟩ => ?_
  exact p φ G H (Go.here S) σ R
theorem seq_of {K : PySem.W.Frag} {D : Ends} {Bs : List Nat} {φ : Nat → Addr} {G : Hp} {st : Sto} {H : Hp} {env : Ev} (p : Post K E0 Bs φ G st H (xSeq a b env st) (giveO K W D)) (D' : Ends) (hrt : D'.rt = D.rt) (hbk : D'.bk = D.bk) (hct : D'.ct = D.ct)
    (hnx : ∀ e s φ' G' H', SimS K φ' G' Bs s H' → (∀ σ, EnvR K φ' s.n G' e σ → Post K E0 Bs φ' G' s H' (b e s) (giveO K W D) → D'.nx σ H')) : Post K E0 Bs φ G st H (a env st) (giveO K W D') := by
  refine p.bind.imp fun o s φ1 G1 H1 g p1 => ?_
  cases o with
  | nx e => exact fun σ R => hnx e s φ1 G1 H1 g.sim σ R p1
  | rt v => show ∀ lv, _ → D'.rt lv H1; rw [hrt]; exact p1 φ1 G1 H1 (Go.here g.sim)
  | bk e => show ∀ σ, _ → D'.bk σ H1; rw [hbk]; exact p1 φ1 G1 H1 (Go.here g.sim)
  | ct e => show ∀ σ, _ → D'.ct σ H1; rw [hct]; exact p1 φ1 G1 H1 (Go.here g.sim)
  | ex c x e => exact p1 φ1 G1 H1 (Go.here g.sim)
theorem jb_cons (h1 : JS X W s a) (h2 : JB X W ss b) : JB X W (s :: ss) (xSeq a b) := by
  refine jb_w (pss_cons h1 h2) fun D σ H ⟨φ, G, Bs, env, st, S, R, p⟩ => ?_
  exact ⟨φ, G, Bs, env, st, S, R, seq_of p _ rfl rfl rfl fun e s φ' G' H' S' σ' R' p' => ⟨φ', G', Bs, e, s, S', R', p'⟩⟩
theorem jb_one (h1 : JS X W s a) : JB X W [s] a := jb_w (pss_one h1) fun _ _ _ h => h
theorem js_ret (h : JE X W e f) : JS X W (.Return (some e) pos) (xRet f) := by
  refine js_w (ps_ret h) fun D σ H ⟨φ, G, Bs, env, st, S, R, p⟩ => ?_
  exact ⟨φ, G, Bs, env, st, S, R, (p.toS R).imp fun v s φ1 G1 H1 g p1 => p1 φ1 G1 H1 (Go.here g.sim)⟩
theorem js_retN : JS X W (.Return none pos) xRetN := by
  refine js_w ps_retN fun D σ H ⟨φ, G, Bs, env, st, S, R, p⟩ => ?_
  exact p φ G H (Go.here S) _ (.d .non)
theorem js_exp (h : JE X W e f) (hs : swapsWith e none pos.line X.env = pure false := by rfl) : JS X W (.Expr e pos) (xExp f) := by
  refine js_w (ps_expr h hs) fun D σ H ⟨φ, G, Bs, env, st, S, R, p⟩ => ?_
  exact ⟨φ, G, Bs, env, st, S, R, (p.toS R).imp fun v s φ1 G1 H1 g p1 lv r => p1 φ1 G1 H1 (Go.here g.sim) σ (g.env R)⟩
theorem js_set {i : Nat} {x : Str} {pos' : Pos} (hN : X.N.Nodup) (h : JE X W e f) (hi : X.N[i]? = some x := by rfl) (hx : Loc X.env.scope x := by first | exact .inl rfl | exact .inr rfl) (hs : swapsWith e (some (.Name x pos')) pos.line X.env = pure false := by rfl)
    (hf : X.fn x = true ∨ X.env.scope.names.lookup x = some .local := by first | exact .inl rfl | exact .inr rfl | assumption) : JS X W (.Assign [.Name x pos'] e pos) (xSet i f) := by
  refine js_w (ps_set hN hi hx h hs hf) fun D σ H ⟨φ, G, Bs, env, st, S, R, p⟩ => ?_
  exact ⟨φ, G, Bs, env, st, S, R, (p.toS R).imp fun v s φ1 G1 H1 g p1 lv r => p1 φ1 G1 H1 (Go.here g.sim) _ ((g.env R).set i r)⟩
theorem js_asg {tg : Expr} {t : SG} {is : List Nat} (h : JE X W e f) (hg : JG X tg is t) (hs : swapsWithSole [tg] e pos.line X.env = pure false := by rfl) (hw : swappedStores [tg] e X.env = pure none := by rfl)
    (h1 : (assignEach [tg] X.env).map (·.2) = [assign tg X.env] := by rfl) : JS X W (.Assign [tg] e pos) (xAsg f t) := by
  refine js_w (ps_asg h hg hs hw h1) fun D σ H ⟨φ, G, Bs, env, st, S, R, p⟩ => ?_
  refine ⟨φ, G, Bs, env, st, S, R, (p.toS R).imp fun v s φ1 G1 H1 g p1 lv r => ?_⟩
  split at p1
  · rename_i e' et
    exact ⟨φ1, G1, Bs, env, s, v, e', g.sim, g.env R, r, et, fun σ' R' _ => p1 φ1 G1 H1 (Go.here g.sim) σ' R'⟩
  · exact p1.elim
theorem js_par {i j : Nat} {x y : Str} {ea eb : Expr} {fa : SA} {px py pt : Pos} {kt k2 pt2} (hc : X.calm = true) (hN : X.N.Nodup) (ha : JA X W [ea, eb] fa) (hi : X.N[i]? = some x := by rfl) (hj : X.N[j]? = some y := by rfl) (hij : i ≠ j := by decide)
    (hx : X.env.scope.names.lookup x = some .local := by rfl) (hy : X.env.scope.names.lookup y = some .local := by rfl)
    (hw : swappedStores [.Tuple [.Name x px, .Name y py] kt pt] (.Tuple [ea, eb] k2 pt2) X.env = pure (some [x, y]) := by rfl)
    (hs : swapsWithSole [.Tuple [.Name x px, .Name y py] kt pt] (.Tuple [ea, eb] k2 pt2) pos.line X.env = pure false := by rfl) : JS X W (.Assign [.Tuple [.Name x px, .Name y py] kt pt] (.Tuple [ea, eb] k2 pt2) pos) (xPar i j fa) := by
  refine js_w (ps_par hc hN hi hj hij hx hy ha hw hs) fun D σ H ⟨φ, G, Bs, env, st, S, R, p⟩ => ?_
  refine ⟨φ, G, Bs, env, st, S, R, (p.toS R).imp fun vs s φ1 G1 H1 g p1 lvs r => ?_⟩
  split at p1
  · rename_i v w
    obtain ⟨x', y', rfl, r1, r2⟩ := two_rep r
    exact ⟨x', y', rfl, p1 φ1 G1 H1 (Go.here g.sim) _ (((g.env R).set i r1).set j r2)⟩
  · exact p1.elim
theorem js_if (ht : JT X W e t) (ha : JB X W ss a) (hb : JB X W tt b) : JS X W (.If e ss tt pos) (xIf t a b) := by
  refine js_w (ps_if ht ha hb) fun D σ H ⟨φ, G, Bs, env, st, S, R, p⟩ => ?_
  refine ⟨φ, G, Bs, env, st, S, R, (p.toS R).imp fun k s φ1 G1 H1 g p1 => ?_⟩
  cases k with
  | true => exact ⟨φ1, G1, Bs, env, s, g.sim, g.env R, p1⟩
  | false => exact ⟨φ1, G1, Bs, env, s, g.sim, g.env R, p1⟩
theorem js_bad : JS X W s xBad := ⟨fun _ _ _ _ _ _ ⟨_, _, _, _, _, _, _, p⟩ => p.elim⟩
theorem jb_bad : JB X W ss xBad := ⟨fun _ _ _ _ _ _ ⟨_, _, _, _, _, _, _, p⟩ => p.elim⟩
theorem js_brk : JS X W (.Break pos) xBrk := by
  refine js_w ps_break fun D σ H ⟨φ, G, Bs, env, st, S, R, p⟩ => ?_
  exact p φ G H (Go.here S) σ R
theorem js_cnt : JS X W (.Continue pos) xCnt := by
  refine js_w ps_continue fun D σ H ⟨φ, G, Bs, env, st, S, R, p⟩ => ?_
  exact p φ G H (Go.here S) σ R
theorem js_pass : JS X W (.Pass pos) xNil := by
  refine js_w ps_pass fun D σ H ⟨φ, G, Bs, env, st, S, R, p⟩ => ?_
  exact p φ G H (Go.here S) σ R
end
end Vi

set_option maxHeartbeats 1000000
/-! Vi5: what is walked, for, list comprehensions. -/
namespace Vi
open PySem PySem.Spec PyProof.Rows L2

/-- an iterator that hands out some values, at every state behind -/
structure Yl (K : PySem.W.Frag) (Bs : List Nat) (J : It) (xs : List Va) (φ : Nat → Addr) (G : Hp) (st : Sto) (H : Hp) : Prop where
  go : ∀ i φ' G' st' H', Go K Bs φ G st H φ' G' st' H' → i < xs.length → J.go i H'
  yl : ∀ i v φ' G' st' H' x H'', Go K Bs φ G st H φ' G' st' H' → xs[i]? = some v → J.yld i H' x H'' → ∃ G'', Go K Bs φ' G' st' H' φ' G'' st' H'' ∧ RepV K φ' st'.n G'' v x
  st : ∀ i φ' G' st' H', Go K Bs φ G st H φ' G' st' H' → xs.length ≤ i → J.stop i H'
abbrev SI := Ev → Sto → Res (List Va)
def RI (X : Cx) (W : WX) (f : SI) : TI := fun σ H R => ∃ φ G Bs env st, SimS X.K φ G Bs st H ∧ EnvR X.K φ st.n G env σ ∧ Post X.K (fun c d H => W c d σ H) Bs φ G st H (f env st) (fun xs s φ' G' H' => ∀ J, Yl X.K Bs J xs φ' G' s H' → R J H')
def JI (X : Cx) (W : WX) (tg e : Expr) (f : SI) : Prop := PI X tg e (RI X W f)
section
variable {K : PySem.W.Frag} {φ : Nat → Addr} {G : Hp} {Bs : List Nat} {st : Sto} {H : Hp}
theorem yl_list {a : Addr} {ys : List LV} {xs : List Va} (S : SimS K φ G Bs st H) (h : SqL K G a ys) (r : RepVs K φ st.n G xs ys) : Yl K Bs (Itl K a) xs φ G st H where
  go := fun i φ' G' st' H' g hi => by
    have hi' : i < ys.length := by rw [← r.length]; exact hi
    exact ⟨ys, ys[i], sqL_mono g.sim.sub (sqL_mono g.ext.gr h), List.getElem?_eq_getElem hi'⟩
  yl := fun i v φ' G' st' H' x H'' g hv ⟨e, y⟩ => by
    subst e
    obtain ⟨w, h1, h2⟩ := r.get hv
    have := y ys (sqL_mono g.sim.sub (sqL_mono g.ext.gr h))
    rw [h1] at this
    cases this
    exact ⟨G', Go.here g.sim, g.v h2⟩
  st := fun i φ' G' st' H' g hi => ⟨ys, sqL_mono g.sim.sub (sqL_mono g.ext.gr h), by rw [← r.length]; exact hi⟩
theorem yl_tup {a : Addr} {ys : List LV} {xs : List Va} (S : SimS K φ G Bs st H) (h : SqT K G a ys) (r : RepVs K φ st.n G xs ys) : Yl K Bs (Itt K a) xs φ G st H where
  go := fun i φ' G' st' H' g hi => by
    have hi' : i < ys.length := by rw [← r.length]; exact hi
    exact ⟨ys, ys[i], sqT_mono g.sim.sub (sqT_mono g.ext.gr h), List.getElem?_eq_getElem hi'⟩
  yl := fun i v φ' G' st' H' x H'' g hv ⟨e, y⟩ => by
    subst e
    obtain ⟨w, h1, h2⟩ := r.get hv
    have := y ys (sqT_mono g.sim.sub (sqT_mono g.ext.gr h))
    rw [h1] at this
    cases this
    exact ⟨G', Go.here g.sim, g.v h2⟩
  st := fun i φ' G' st' H' g hi => ⟨ys, sqT_mono g.sim.sub (sqT_mono g.ext.gr h), by rw [← r.length]; exact hi⟩
def rngL (lo : Int) (n : Nat) : List Va := (List.range n).map fun i => .d (.int (lo + (i : Nat)))
theorem rngL_get {lo : Int} {n i : Nat} {v : Va} (h : (rngL lo n)[i]? = some v) : i < n ∧ v = .d (.int (lo + (i : Nat))) := by
  unfold rngL at h
  rw [List.getElem?_map] at h
  by_cases hi : i < n
  · rw [List.getElem?_range hi] at h
    exact ⟨hi, (Option.some.inj h).symm⟩
  · rw [List.getElem?_eq_none (by rw [List.length_range]; omega)] at h
    cases h
theorem rngL_len {lo : Int} {n : Nat} : (rngL lo n).length = n := by unfold rngL; rw [List.length_map, List.length_range]
theorem yl_rng (S : SimS K φ G Bs st H) (lo : Int) (n : Nat) : Yl K Bs (Itr lo n) (rngL lo n) φ G st H where
  go := fun i φ' G' st' H' g hi => by
    rw [rngL_len] at hi
    exact hi
  yl := fun i v φ' G' st' H' x H'' g hv ⟨e, y⟩ => by
    subst e y
    obtain ⟨_, rfl⟩ := rngL_get hv
    exact ⟨G', Go.here g.sim, .d (.int _)⟩
  st := fun i φ' G' st' H' g hi => by
    rw [rngL_len] at hi
    exact hi
def enumL : Nat → List Va → List Va
  | _, [] => []
  | i, x :: xs => mkT [.d (.int (i : Nat)), x] :: enumL (i + 1) xs
theorem enumL_len : ∀ (i : Nat) (xs : List Va), (enumL i xs).length = xs.length
  | _, [] => rfl
  | i, _ :: xs => by show (enumL (i + 1) xs).length + 1 = xs.length + 1; rw [enumL_len]
theorem enumL_get : ∀ (k : Nat) (xs : List Va) (i : Nat) (v : Va), (enumL k xs)[i]? = some v → ∃ x, xs[i]? = some x ∧ v = mkT [.d (.int ((k + i : Nat) : Int)), x]
  | _, [], _, _, h => by simp [enumL] at h
  | k, x :: xs, 0, v, h => by
    have h : some (mkT [.d (.int (k : Nat)), x]) = some v := h
    exact ⟨x, rfl, (Option.some.inj h).symm⟩
  | k, x :: xs, i + 1, v, h => by
    have h : (enumL (k + 1) xs)[i]? = some v := h
    obtain ⟨y, h1, h2⟩ := enumL_get (k + 1) xs i v h
    refine ⟨y, by simpa using h1, ?_⟩
    rw [h2, show k + 1 + i = k + (i + 1) by omega]
theorem two_reps {φ : Nat → Addr} {n : Nat} {a b : Va} {x y : LV} (r1 : RepV K φ n G a x) (r2 : RepV K φ n G b y) : RepVs K φ n G [a, b] [x, y] := .cons r1 (.cons r2 .nil)
theorem yl_enum {a : Addr} {ys : List LV} {xs : List Va} (S : SimS K φ G Bs st H) (h : SqL K G a ys) (r : RepVs K φ st.n G xs ys) : Yl K Bs (Ite K a) (enumL 0 xs) φ G st H where
  go := fun i φ' G' st' H' g hi => by
    rw [enumL_len] at hi
    have hi' : i < ys.length := by rw [← r.length]; exact hi
    exact ⟨ys, ys[i], sqL_mono g.sim.sub (sqL_mono g.ext.gr h), List.getElem?_eq_getElem hi'⟩
  yl := fun i v φ' G' st' H' x H'' g hv ⟨T, y, e1, e2, e3, e4⟩ => by
    subst e1 e3
    obtain ⟨u, h1, rfl⟩ := enumL_get 0 xs i v hv
    obtain ⟨w, h2, h3⟩ := r.get h1
    have := e4 ys (sqL_mono g.sim.sub (sqL_mono g.ext.gr h))
    rw [h2] at this
    cases this
    have sg : Same G' (upd G' T (.tup [.int (i : Nat), y])) := same_up (g.sim.gnone e2)
    refine ⟨_, Go.laid g.sim e2, mkT_rep (.of upd_same) (two_reps (.d ?_) ((g.v h3).mono (Nat.le_refl _) (fun _ _ => rfl) sg))⟩
    rw [Nat.zero_add]
    exact .int _
  st := fun i φ' G' st' H' g hi => by
    rw [enumL_len] at hi
    exact ⟨ys, sqL_mono g.sim.sub (sqL_mono g.ext.gr h), by rw [← r.length]; exact hi⟩
def zipL : List Va → List Va → List Va
  | x :: xs, y :: ys => mkT [x, y] :: zipL xs ys
  | _, _ => []
theorem zipL_len : ∀ (xs ys : List Va), (zipL xs ys).length = min xs.length ys.length
  | [], _ => by simp [zipL]
  | _ :: _, [] => by simp [zipL]
  | _ :: xs, _ :: ys => by
    show (zipL xs ys).length + 1 = min (xs.length + 1) (ys.length + 1)
    rw [zipL_len]
    omega
theorem zipL_get : ∀ (xs ys : List Va) (i : Nat) (v : Va), (zipL xs ys)[i]? = some v → ∃ x y, xs[i]? = some x ∧ ys[i]? = some y ∧ v = mkT [x, y]
  | [], _, _, _, h => by simp [zipL] at h
  | _ :: _, [], _, _, h => by simp [zipL] at h
  | x :: xs, y :: ys, 0, v, h => by
    have h : some (mkT [x, y]) = some v := h
    exact ⟨x, y, rfl, rfl, (Option.some.inj h).symm⟩
  | x :: xs, y :: ys, i + 1, v, h => by
    have h : (zipL xs ys)[i]? = some v := h
    obtain ⟨a, b, h1, h2, h3⟩ := zipL_get xs ys i v h
    exact ⟨a, b, by simpa using h1, by simpa using h2, h3⟩
end
section
variable {X : Cx} {W : WX} {tg l e e2 : Expr} {f f2 : SE} {fa : SA} {p pos tpos : Pos} {elts : List Expr} {kk : Nat}
/-- what may be walked as it stands -/
def frozL : Va → Option (List Va)
  | .d (.list ds) => some (ds.map .d)
  | .s ns => some (ns.map fun n => .d (.int n))
  | _ => none
def frozT : Va → Option (List Va)
  | .d (.tuple ds) => some (ds.map .d)
  | .t xs => some xs
  | _ => none
theorem frozL_rep {K : PySem.W.Frag} {φ : Nat → Addr} {n : Nat} {G : Hp} {v : Va} {x : LV} {xs : List Va} (r : RepV K φ n G v x) (e : frozL v = some xs) : ∃ a ys, x = .ref a ∧ SqL K G a ys ∧ RepVs K φ n G xs ys := by
  cases r with
  | d r =>
    cases r with
    | lst s r =>
      cases e
      exact ⟨_, _, rfl, .of s, .of_data r⟩
    | _ => cases e
  | @s a ns h =>
    cases e
    exact ⟨_, _, rfl, h, ints_rep ns⟩
  | _ => cases e
theorem frozT_rep {K : PySem.W.Frag} {φ : Nat → Addr} {n : Nat} {G : Hp} {v : Va} {x : LV} {xs : List Va} (r : RepV K φ n G v x) (e : frozT v = some xs) : ∃ a ys, x = .ref a ∧ SqT K G a ys ∧ RepVs K φ n G xs ys := by
  cases r with
  | d r =>
    cases r with
    | tup s r =>
      cases e
      exact ⟨_, _, rfl, s, .of_data r⟩
    | _ => cases e
  | t s r =>
    cases e
    exact ⟨_, _, rfl, s, r⟩
  | _ => cases e
def strL (z : Str) : List Va := z.cps.toList.map fun c => .d (.str ⟨#[c]⟩)
def frozS : Va → Option Str
  | .d (.str z) => some z
  | _ => none
theorem frozS_eq {v : Va} {z : Str} (h : frozS v = some z) : v = .d (.str z) := by
  unfold frozS at h
  split at h
  · cases h; rfl
  · cases h
def walkV (v : Va) : Option (List Va) := match frozL v with
  | some xs => some xs
  | none => (match frozT v with
    | some xs => some xs
    | none => (frozS v).map strL)
def sIt (f : SE) : SI := fun env st => (f env st).bind fun v s => match walkV v with
  | some xs => .ok xs s
  | none => .bad
theorem yl_str {K : PySem.W.Frag} {φ : Nat → Addr} {G : Hp} {Bs : List Nat} {st : Sto} {H : Hp} (S : SimS K φ G Bs st H) (z : Str) : Yl K Bs (Its z) (strL z) φ G st H where
  go := fun i φ' G' st' H' g hi => by
    unfold strL at hi
    rw [List.length_map, Array.length_toList] at hi
    exact hi
  yl := fun i v φ' G' st' H' x H'' g hv ⟨e, c, h1, h2⟩ => by
    subst e h2
    unfold strL at hv
    rw [List.getElem?_map, Array.getElem?_toList, h1] at hv
    cases hv
    exact ⟨G', Go.here g.sim, .d (.str _)⟩
  st := fun i φ' G' st' H' g hi => by
    unfold strL at hi
    rw [List.length_map, Array.length_toList] at hi
    exact hi
/-- a list, a tuple, a text, by its value -/
theorem ji_v (h : JE X W l f) : JI X W tg l (sIt f) := by
  refine ⟨fun pins s σ H R I ⟨φ, G, Bs, env, st, S, Re, p⟩ => ?_⟩
  unfold sIt at p
  cases ef : f env st with
  | bad => rw [ef] at p; exact p.elim
  | exn c x s' =>
    rw [ef] at p
    refine (pi_list h).run pins s σ H R I ⟨φ, G, Bs, env, st, S, Re, ?_⟩
    rw [ef]
    exact p
  | ok v s' =>
    rw [ef] at p
    have p : Post X.K (fun c d H => W c d σ H) Bs φ G st H (match walkV v with
      | some xs => .ok xs s'
      | none => .bad) (fun xs s φ' G' H' => ∀ J, Yl X.K Bs J xs φ' G' s H' → R J H') := p
    cases ew : walkV v with
    | none => rw [ew] at p; exact p.elim
    | some zs =>
      rw [ew] at p
      unfold walkV at ew
      cases e1 : frozL v with
      | some xs =>
        rw [e1] at ew
        cases ew
        refine (pi_list h).run pins s σ H R I ⟨φ, G, Bs, env, st, S, Re, ?_⟩
        rw [ef]
        refine fun φ' G' H' g lv r => ?_
        obtain ⟨a, ys, rfl, h1, h2⟩ := frozL_rep r e1
        exact ⟨a, rfl, ⟨ys, sqL_mono g.sim.sub h1⟩, p φ' G' H' g _ (yl_list g.sim h1 h2)⟩
      | none =>
        rw [e1] at ew
        dsimp only at ew
        cases e2 : frozT v with
        | some xs =>
          rw [e2] at ew
          cases ew
          refine (pi_tup h).run pins s σ H R I ⟨φ, G, Bs, env, st, S, Re, ?_⟩
          rw [ef]
          refine fun φ' G' H' g lv r => ?_
          obtain ⟨a, ys, rfl, h1, h2⟩ := frozT_rep r e2
          exact ⟨a, rfl, ⟨ys, sqT_mono g.sim.sub h1⟩, p φ' G' H' g _ (yl_tup g.sim h1 h2)⟩
        | none =>
          rw [e2] at ew
          dsimp only at ew
          cases e3 : frozS v with
          | none => rw [e3] at ew; cases ew
          | some z =>
            rw [e3] at ew
            cases ew
            have ev := frozS_eq e3
            subst ev
            refine (pi_str h).run pins s σ H R I ⟨φ, G, Bs, env, st, S, Re, ?_⟩
            rw [ef]
            refine fun φ' G' H' g lv r => ?_
            have := strV r
            subst this
            exact ⟨z, rfl, p φ' G' H' g _ (yl_str g.sim z)⟩
def sRg1 (f : SA) : SI := fun env st => (f env st).bind fun vs s => match vs with
  | [.d (.int j)] => if -(2 ^ 62) ≤ j ∧ j < 2 ^ 62 then .ok (rngL 0 j.toNat) s else .bad
  | _ => .bad
def sRg2 (f : SA) : SI := fun env st => (f env st).bind fun vs s => match vs with
  | [.d (.int i), .d (.int j)] => if -(2 ^ 62) ≤ i ∧ i < 2 ^ 62 ∧ -(2 ^ 62) ≤ j ∧ j < 2 ^ 62 then .ok (rngL i (j - i).toNat) s else .bad
  | _ => .bad
theorem ji_rg1 (hg : Gl X "range") (hm : X.mg "range" = none) (ha : JA X W [e] fa) (hs : starEach [e] X.env = [(false, eval e X.env)] := by rfl) : JI X W tg (.Call (.Name "range" p) [e] [] pos) (sRg1 fa) := by
  refine ⟨fun pins s σ H R I ⟨φ, G, Bs, env, st, S, Re, q⟩ => (pi_range1 hg hm ha hs).run pins s σ H R I ?_⟩
  refine ⟨φ, G, Bs, env, st, S, Re, q.bind.imp fun vs s φ1 G1 H1 g p1 lvs r => ?_⟩
  split at p1
  · rename_i j
    split at p1
    · rename_i hj
      obtain ⟨x, rfl, r1⟩ := one_rep r
      have := intV r1
      subst this
      exact ⟨j, rfl, hj.1, hj.2, p1 φ1 G1 H1 (Go.here g.sim) _ (yl_rng g.sim 0 j.toNat)⟩
    · exact p1.elim
  · exact p1.elim
theorem ji_rg2 (hg : Gl X "range") (hm : X.mg "range" = none) (ha : JA X W [e, e2] fa) (hs : starEach [e, e2] X.env = [(false, eval e X.env), (false, eval e2 X.env)] := by rfl) (hs2 : starEach [e2] X.env = [(false, eval e2 X.env)] := by rfl) :
    JI X W tg (.Call (.Name "range" p) [e, e2] [] pos) (sRg2 fa) := by
  refine ⟨fun pins s σ H R I ⟨φ, G, Bs, env, st, S, Re, q⟩ => (pi_range2 hg hm ha hs hs2).run pins s σ H R I ?_⟩
  refine ⟨φ, G, Bs, env, st, S, Re, q.bind.imp fun vs s φ1 G1 H1 g p1 lvs r => ?_⟩
  split at p1
  · rename_i i j
    split at p1
    · rename_i hj
      obtain ⟨x, y, rfl, r1, r2⟩ := two_rep r
      have e1 := intV r1
      have e2 := intV r2
      subst e1 e2
      exact ⟨i, j, rfl, hj, p1 φ1 G1 H1 (Go.here g.sim) _ (yl_rng g.sim i (j - i).toNat)⟩
    · exact p1.elim
  · exact p1.elim
def sEnum (f : SA) : SI := fun env st => (f env st).bind fun vs s => match vs with
  | [v] => (match frozL v with
    | some xs => .ok (enumL 0 xs) s
    | none => .bad)
  | _ => .bad
theorem ji_enum (hg : Gl X "enumerate") (hm : X.mg "enumerate" = none) (ha : JA X W [e] fa) (hs : starEach [e] X.env = [(false, eval e X.env)] := by rfl) : JI X W (.Tuple elts kk tpos) (.Call (.Name "enumerate" p) [e] [] pos) (sEnum fa) := by
  refine ⟨fun pins s σ H R I ⟨φ, G, Bs, env, st, S, Re, q⟩ => (pi_enum hg hm ha hs).run pins s σ H R I ?_⟩
  refine ⟨φ, G, Bs, env, st, S, Re, q.bind.imp fun vs s φ1 G1 H1 g p1 lvs r => ?_⟩
  split at p1
  · split at p1
    · rename_i v _ xs hf
      obtain ⟨x, rfl, r1⟩ := one_rep r
      obtain ⟨a, ys, rfl, h1, h2⟩ := frozL_rep r1 hf
      exact ⟨a, ys, rfl, sqL_mono g.sim.sub h1, p1 φ1 G1 H1 (Go.here g.sim) _ (yl_enum g.sim h1 h2)⟩
    · exact p1.elim
  · exact p1.elim
end

/-! ### for -/
def forL (t : SG) (body : SS) : List Va → Ev → Sto → Res Out
  | [], env, st => .ok (.nx env) st
  | x :: xs, env, st => match t x env st with
    | none => .bad
    | some e1 => (body e1 st).bind fun o s => match o with
      | .nx e => forL t body xs e s
      | .ct e => forL t body xs e s
      | .bk e => .ok (.nx e) s
      | o => .ok o s
def xFor (it : SI) (t : SG) (body : SS) : SS := fun env st => toS (it env st) env fun xs s => forL t body xs env s
section
variable {X : Cx} {W : WX} {tg iter : Expr} {it : SI} {t : SG} {is : List Nat} {b : SS} {body : List Stmt} {pos : Pos}
theorem js_for (hp : PassesOwn (model X.prog X.w) X.A X.env X.xe) (hc : X.calm = true) (hi : JI X W tg iter it) (hg : JG X tg is t) (hb : JB X W body b) (hs : ∀ x, foldedSetIterable iter X.env x = pure x := by intro _; rfl) : JS X W (.For tg iter body [] pos) (xFor it t b) := by
  refine js_w (ps_for hp hc hi hg hb hs) fun D σ H ⟨φ, G, Bs, env, st, S, R, p⟩ => ?_
  refine ⟨φ, G, Bs, env, st, S, R, (p.toS R).imp fun xs s φ1 G1 H1 g1 p1 J hJ => ?_⟩
  refine ⟨fun i m σ H => m = xs.length - i ∧ i ≤ xs.length ∧ ∃ φ2 G2 env2 s2, Go X.K Bs φ1 G1 s H1 φ2 G2 s2 H ∧ EnvR X.K φ2 s2.n G2 env2 σ ∧ Post X.K E0 Bs φ2 G2 s2 H (forL t b (xs.drop i) env2 s2) (giveO X.K W D),
    ⟨_, rfl, Nat.zero_le _, φ1, G1, env, s, Go.here g1.sim, g1.env R, by rw [List.drop_zero]; exact p1⟩, ?_⟩
  rintro i m σ2 H2 ⟨rfl, hi, φ2, G2, env2, s2, g2, R2, p2⟩
  by_cases hlt : i < xs.length
  · refine .inr ⟨hJ.go i φ2 G2 s2 H2 g2 hlt, fun σ' H' => i + 1 ≤ xs.length ∧ ∃ φ3 G3 env3 s3, Go X.K Bs φ1 G1 s H1 φ3 G3 s3 H' ∧ EnvR X.K φ3 s3.n G3 env3 σ' ∧ Post X.K E0 Bs φ3 G3 s3 H' (forL t b (xs.drop (i + 1)) env3 s3) (giveO X.K W D), fun σ' H' h => ⟨_, by omega, rfl, h⟩, fun x H3 hy => ?_⟩
    have hget : xs[i]? = some xs[i] := List.getElem?_eq_getElem hlt
    obtain ⟨G3, g3, r3⟩ := hJ.yl i xs[i] φ2 G2 s2 H2 x H3 g2 hget hy
    rw [List.drop_eq_getElem_cons hlt] at p2
    unfold forL at p2
    split at p2
    · exact p2.elim
    · rename_i e1 ht
      have p3 := p2.move g3
      refine ⟨φ2, G3, Bs, env2, s2, _, e1, g3.sim, g3.env R2, r3, ht, fun σ3 R3 _ => ?_⟩
      refine ⟨φ2, G3, Bs, e1, s2, g3.sim, R3, p3.bind.imp fun o s4 φ4 G4 H4 g4 p4 => ?_⟩
      have g5 := (g2.trans g3).trans g4
      cases o with
      | nx e => exact fun σ R => ⟨hlt, φ4, G4, e, s4, g5, R, p4⟩
      | ct e => exact fun σ R => ⟨hlt, φ4, G4, e, s4, g5, R, p4⟩
      | bk e => exact fun σ R => p4 φ4 G4 H4 (Go.here g4.sim) σ R
      | rt v => exact p4 φ4 G4 H4 (Go.here g4.sim)
      | ex c x e => exact p4 φ4 G4 H4 (Go.here g4.sim)
  · have hi2 : i = xs.length := by omega
    subst hi2
    rw [List.drop_length] at p2
    exact .inl ⟨hJ.st _ φ2 G2 s2 H2 g2 (Nat.le_refl _), p2 φ2 G2 H2 (Go.here g2.sim) σ2 R2⟩
end

/-! ### [e for t in it if c] -/
def bindN {α β : Type} (r : Res α) (k : α → Sto → Res β) : Res β := match r with
  | .ok a s => k a s
  | _ => .bad
def wipeE (env : Ev) : List Nat → Ev
  | [] => env
  | v :: vs => (wipeE env vs).set v none
def lcL (t : SG) (c : ST) (e : SE) (env : Ev) : List Va → Sto → Res (List Va)
  | [], st => .ok [] st
  | x :: xs, st => match t x env st with
    | none => .bad
    | some e1 => bindN (c e1 st) fun k s => if k = true then bindN (e e1 s) fun v s => (lcL t c e env xs s).bind fun vs s => .ok (v :: vs) s else lcL t c e env xs s
def tY : ST := fun _ st => .ok true st
def lcR (it : SI) (t : SG) (c : ST) (e : SE) (vs : List Nat) : SI := fun env st => (it env st).bind fun xs s => if xs.length < sizeLine then lcL t c e (wipeE env vs) xs s else .bad
def sLc (it : SI) (t : SG) (c : ST) (e : SE) (vs : List Nat) : SE := fun env st => (lcR it t c e vs env st).bind fun xs s => match allD xs with
  | some ds => .ok (.d (.list ds)) s
  | none => .bad
def sLcM (it : SI) (t : SG) (c : ST) (e : SE) (vs : List Nat) : SE := fun env st => (lcR it t c e vs env st).bind fun xs s => .ok (.r s.n) (s.push (.l xs))
theorem wipeE_len (env : Ev) : ∀ vs : List Nat, (wipeE env vs).length = env.length
  | [] => rfl
  | v :: vs => by unfold wipeE; rw [List.length_set, wipeE_len env vs]
theorem wipeE_some {env : Ev} {i : Nat} {x : Va} : ∀ {vs : List Nat}, (wipeE env vs)[i]? = some (some x) → env[i]? = some (some x) ∧ i ∉ vs
  | [], h => ⟨h, by simp⟩
  | v :: vs, h => by
    unfold wipeE at h
    by_cases hi : v = i
    · subst hi
      by_cases hv : v < (wipeE env vs).length
      · rw [List.getElem?_set_self hv] at h; cases h
      · rw [List.getElem?_eq_none (by rw [List.length_set]; omega)] at h; cases h
    · rw [List.getElem?_set_ne hi] at h
      obtain ⟨h1, h2⟩ := wipeE_some h
      exact ⟨h1, fun z => (List.mem_cons.mp z).elim (fun e => hi e.symm) h2⟩
theorem EnvR.wipe {K : PySem.W.Frag} {φ : Nat → Addr} {n : Nat} {G : Hp} {env : Ev} {σ : L2.St} (r : EnvR K φ n G env σ) (vs : List Nat) : EnvR K φ n G (wipeE env vs) (wipe σ vs) := by
  refine ⟨by rw [wipeE_len, wipe_length]; exact r.1, fun i v h => ?_⟩
  obtain ⟨h1, h2⟩ := wipeE_some h
  obtain ⟨lv, h3, h4⟩ := r.2 i v h1
  exact ⟨lv, by rw [wipe_out h2]; exact h3, h4⟩
theorem wipe_at {σ : L2.St} {i : Nat} : ∀ {vs : List Nat}, i ∈ vs → i < σ.length → (wipe σ vs)[i]? = some none
  | v :: vs, h, hl => by
    unfold wipe
    by_cases e : v = i
    · subst e
      exact List.getElem?_set_self (by rw [wipe_length]; exact hl)
    · rw [List.getElem?_set_ne e]
      exact wipe_at ((List.mem_cons.mp h).resolve_left fun z => e z.symm) hl
theorem Off.wipe {is vs : List Nat} {σ σ' : L2.St} (o : Off is σ σ') (h : ∀ i ∈ is, i ∈ vs) : L2.wipe σ' vs = L2.wipe σ vs := by
  apply List.ext_getElem?
  intro i
  by_cases hi : i ∈ vs
  · by_cases hl : i < σ.length
    · rw [wipe_at hi hl, wipe_at hi (by rw [o.1]; exact hl)]
    · rw [List.getElem?_eq_none (by rw [wipe_length, o.1]; omega), List.getElem?_eq_none (by rw [wipe_length]; omega)]
  · rw [wipe_out hi, wipe_out hi, o.2 i fun z => hi (h i z)]
theorem wipe_wipe {σ : L2.St} {vs : List Nat} : L2.wipe (L2.wipe σ vs) vs = L2.wipe σ vs := by
  apply List.ext_getElem?
  intro i
  by_cases hi : i ∈ vs
  · by_cases hl : i < σ.length
    · rw [wipe_at hi hl, wipe_at hi (by rw [wipe_length]; exact hl)]
    · rw [List.getElem?_eq_none (by rw [wipe_length, wipe_length]; omega), List.getElem?_eq_none (by rw [wipe_length]; omega)]
  · rw [wipe_out hi]
/-! ### an object on the side, while a list is made -/
section
variable {K : PySem.W.Frag} {Bs : List Nat} {φ φ' φ'' : Nat → Addr} {G G' G'' : Hp} {st st' st'' : Sto} {H H' H'' : Hp} {p : Addr} {o : HO}
theorem Go.hid (S : SimS K φ G Bs st H) (hp : H p = none) : Go K Bs φ G st H φ G st (upd H p o) ∧ Fgn φ G st (upd H p o) p := by
  refine ⟨⟨.refl, Nat.le_refl _, rfl, fun q ⟨f1, f2, f3⟩ => ?_, S.hid hp⟩, by rw [upd_same]; simp, S.gnone hp, fun i ob e => S.off hp e⟩
  have ne : q ≠ p := fun e => f1 (e ▸ hp)
  exact ⟨upd_ne ne, by rw [upd_ne ne]; exact f1, f2, f3⟩
theorem Go.hid2 (g : Go K Bs φ G st H φ' G' st' H') (hp : H p = none) (f : Fgn φ' G' st' H' p) : Go K Bs φ G st H φ' G' st' (upd H' p o) ∧ Fgn φ' G' st' (upd H' p o) p := by
  refine ⟨⟨g.ext, g.le, g.bq, fun q hq => ?_, g.sim.hid2 f.2.1 f.2.2⟩, by rw [upd_same]; simp, f.2.1, f.2.2⟩
  have ne : q ≠ p := fun e => hq.1 (e ▸ hp)
  obtain ⟨e1, f1, f2, f3⟩ := g.fr q hq
  exact ⟨(upd_ne ne).trans e1, by rw [upd_ne ne]; exact f1, f2, f3⟩
theorem Go.take (g : Go K Bs φ G st H φ' G' st' H') (hp : H p = none) (f : Fgn φ' G' st' H' p) (e : H' p = some o) : Go K Bs φ G st H φ' (upd G' p o) st' H' := by
  obtain ⟨S, sg⟩ := g.sim.take e f.2.2
  refine ⟨⟨g.ext.fi, g.ext.gr.trans (sg f.2.1)⟩, g.le, g.bq, fun q hq => ?_, S⟩
  have ne : q ≠ p := fun e => hq.1 (e ▸ hp)
  obtain ⟨e1, f1, f2, f3⟩ := g.fr q hq
  exact ⟨e1, f1, by rw [upd_ne ne]; exact f2, f3⟩
theorem SimS.wipe (S : SimS K φ G Bs st H) (hg : G p = none) (hf : ∀ (i : Nat) (ob : Ob), st.obs[i]? = some (some ob) → φ i ≠ p) : SimS K φ G Bs st (fun b => if b = p then none else H b) := by
  refine ⟨fun b x e => ?_, fun i ob e => ?_, S.inj, S.bs, S.bl⟩
  · rw [if_neg (ne_of_none e hg)]
    exact S.sub b x e
  · obtain ⟨g, ho, h1, h2⟩ := S.ob i ob e
    exact ⟨g, ho, by rw [if_neg (hf i ob e)]; exact h1, h2⟩
def delp (H : Hp) (p : Addr) : Hp := fun b => if b = p then none else H b
theorem delp_same : delp H p p = none := if_pos rfl
theorem delp_ne {q : Addr} (h : q ≠ p) : delp H p q = H q := if_neg h
theorem Go.erase (g : Go K Bs φ G st H φ' G' st' H') (hp : H p = none) (f : Fgn φ' G' st' H' p) : Go K Bs φ G st H φ' G' st' (delp H' p) := by
  refine ⟨g.ext, g.le, g.bq, fun q hq => ?_, g.sim.wipe f.2.1 f.2.2⟩
  have ne : q ≠ p := fun e => hq.1 (e ▸ hp)
  obtain ⟨e1, f1, f2, f3⟩ := g.fr q hq
  exact ⟨(delp_ne ne).trans e1, by rw [delp_ne ne]; exact f1, f2, f3⟩
theorem Go.adopt {ob : Ob} (S : SimS K φ' G' Bs st' (delp H' p)) (e : H' p = some o) (r : RepO K φ' st'.n G' ob o) : Go K Bs φ' G' st' (delp H' p) (putφ φ' st'.n p) G' (st'.push ob) H' := Go.made S delp_same (fun b hb _ => (delp_ne hb).symm) e r
end
abbrev W0 : WX := fun _ _ _ _ => False
def JTs (X : Cx) (ifs : List Expr) (f : ST) : Prop := PTs X ifs (RT X W0 f)
theorem jts_n {X : Cx} : JTs X [] tY := ⟨fun pins s σ H Q I ⟨φ, G, Bs, env, st, S, R, p⟩ => pts_nil.run pins s σ H Q I (p φ G H (Go.here S))⟩
theorem jts_1 {X : Cx} {c : Expr} {f : ST} (h : JT X W0 c f) : JTs X [c] f := pts_one h
section
variable {X : Cx} {W : WX} {elt tg iter : Expr} {ifs : List Expr} {scope : Scope} {own : List (Str × Nat)} {pos spos py : Pos} {it : SI} {t : SG} {is : List Nat} {c : ST} {e : SE}
/-- the list is made; then what is done with it -/
theorem lc_of {σ : L2.St} {H : Hp} {Q : VK} {k : List Va → Sto → Res Va} {vs : List Nat} (hsub : ∀ i ∈ is, i ∈ vs)
    (fin : ∀ {Bs φ1 G1 s H1 φ2 G2 s2 H2 acc accv D}, H1 D = none → Go X.K Bs φ1 G1 s H1 φ2 G2 s2 H2 → Fgn φ2 G2 s2 H2 D → H2 D = some (.lst accv) → RepVs X.K φ2 s2.n G2 acc accv → accv.length ≤ sizeLine →
      (∀ φ' G' H', Go X.K Bs φ1 G1 s H1 φ' G' s2 H' → Post X.K (fun c d H => W c d σ H) Bs φ' G' s2 H' (k acc s2) (giveV X.K Q)) → Q (.ref D) H2)
    (h : RE X W (fun env st => (lcR it t c e vs env st).bind k) σ H Q) : tLc (RI X W it) (RG X.K is t) (RT X W0 c) (RE X W0 e) vs σ H Q := by
  obtain ⟨φ, G, Bs, env, st, S, R, p⟩ := h
  refine ⟨φ, G, Bs, env, st, S, R, p.bind.bind.imp fun xs s φ1 G1 H1 g1 p1 J hJ D hD => ?_⟩
  split at p1
  case isFalse => exact p1.elim
  rename_i hz
  obtain ⟨gh, fh⟩ := Go.hid (o := .lst []) g1.sim hD
  have R1 : EnvR X.K φ1 s.n G1 (wipeE env vs) (L2.wipe σ vs) := (g1.env R).wipe vs
  refine ⟨fun i m H2 => m = xs.length - i ∧ i ≤ xs.length ∧ ∃ acc accv φ2 G2 s2, Go X.K Bs φ1 G1 s H1 φ2 G2 s2 H2 ∧ Fgn φ2 G2 s2 H2 D ∧ H2 D = some (.lst accv) ∧ RepVs X.K φ2 s2.n G2 acc accv ∧ accv.length ≤ i ∧
      Post X.K (fun c d H => W c d σ H) Bs φ1 G1 s H1 ((lcL t c e (wipeE env vs) (xs.drop i) s2).bind fun r s => .ok (acc ++ r) s) (fun r s φ' G' H' => Post X.K (fun c d H => W c d σ H) Bs φ' G' s H' (k r s) (giveV X.K Q)),
    ⟨_, rfl, Nat.zero_le _, [], [], φ1, G1, s, gh, fh, upd_same, .nil, Nat.le_refl _, ?_⟩, ?_⟩
  · rw [List.drop_zero]
    have e1 : ((lcL t c e (wipeE env vs) xs s).bind fun r s => Res.ok ([] ++ r) s) = lcL t c e (wipeE env vs) xs s := by cases lcL t c e (wipeE env vs) xs s <;> rfl
    rw [e1]
    exact p1
  rintro i m H2 ⟨rfl, hi, acc, accv, φ2, G2, s2, g2, f2, d2, ra, hl, p2⟩
  by_cases hlt : i < xs.length
  · refine .inr ⟨hJ.go i φ2 G2 s2 H2 g2 hlt, fun H' => ∃ acc accv φ2 G2 s2, Go X.K Bs φ1 G1 s H1 φ2 G2 s2 H' ∧ Fgn φ2 G2 s2 H' D ∧ H' D = some (.lst accv) ∧ RepVs X.K φ2 s2.n G2 acc accv ∧ accv.length ≤ i + 1 ∧
      Post X.K (fun c d H => W c d σ H) Bs φ1 G1 s H1 ((lcL t c e (wipeE env vs) (xs.drop (i + 1)) s2).bind fun r s => .ok (acc ++ r) s) (fun r s φ' G' H' => Post X.K (fun c d H => W c d σ H) Bs φ' G' s H' (k r s) (giveV X.K Q)),
      fun H' h => ⟨_, by omega, rfl, hlt, h⟩, fun x H3 hy => ?_⟩
    have hget : xs[i]? = some xs[i] := List.getElem?_eq_getElem hlt
    obtain ⟨G3, g3, r3⟩ := hJ.yl i xs[i] φ2 G2 s2 H2 x H3 g2 hget hy
    obtain ⟨d3e, f3⟩ := g3.fr D f2
    have d3 := d3e.trans d2
    rw [List.drop_eq_getElem_cons hlt] at p2
    unfold lcL at p2
    cases ht : t xs[i] (wipeE env vs) s2 with
    | none =>
      rw [ht] at p2
      exact p2.elim
    | some e1 =>
      rw [ht] at p2
      dsimp only at p2
      have g23 := g2.trans g3
      refine ⟨φ2, G3, Bs, wipeE env vs, s2, _, e1, g3.sim, g3.env (g2.env R1), r3, ht, fun σ3 R3 o3 => ⟨?_, ?_⟩⟩
      · rw [o3.wipe hsub, wipe_wipe]
      refine ⟨φ2, G3, Bs, e1, s2, g3.sim, R3, ?_⟩
      cases hc : c e1 s2 with
      | bad => rw [hc] at p2; exact p2.elim
      | exn _ _ _ => rw [hc] at p2; exact p2.elim
      | ok kk s4 =>
        rw [hc] at p2
        refine fun φ4 G4 H4 g4 => ?_
        obtain ⟨d4e, f4⟩ := g4.fr D f3
        have d4 := d4e.trans d3
        have g24 := g23.trans g4
        cases kk with
        | false =>
          rw [if_neg Bool.false_ne_true]
          exact ⟨acc, accv, φ4, G4, s4, g24, f4, d4, (g3.trans g4).vs ra, by omega, p2⟩
        | true =>
          rw [if_pos rfl]
          refine ⟨φ4, G4, Bs, e1, s4, g4.sim, g4.env R3, ?_⟩
          have p2 : Post X.K (fun c d H => W c d σ H) Bs φ1 G1 s H1 ((bindN (e e1 s4) fun v s => (lcL t c e (wipeE env vs) (xs.drop (i + 1)) s).bind fun vs s => .ok (v :: vs) s).bind fun r s => .ok (acc ++ r) s) (fun r s φ' G' H' => Post X.K (fun c d H => W c d σ H) Bs φ' G' s H' (k r s) (giveV X.K Q)) := p2
          cases he : e e1 s4 with
          | bad => rw [he] at p2; exact p2.elim
          | exn _ _ _ => rw [he] at p2; exact p2.elim
          | ok v s5 =>
            rw [he] at p2
            refine fun φ5 G5 H5 g5 lv r5 => ?_
            obtain ⟨d5e, f5⟩ := g5.fr D f4
            have d5 := d5e.trans d4
            obtain ⟨g6, f6⟩ := Go.hid2 (o := .lst (accv ++ [lv])) (g24.trans g5) hD f5
            refine ⟨accv, d5, by omega, acc ++ [v], accv ++ [lv], φ5, G5, s5, g6, f6, upd_same, ((g3.trans g4).trans g5).vs ra |>.append (.cons r5 .nil), by rw [List.length_append]; simp; omega, ?_⟩
            have e2 : ((lcL t c e (wipeE env vs) (xs.drop (i + 1)) s5).bind fun r s => Res.ok ((acc ++ [v]) ++ r) s) = ((lcL t c e (wipeE env vs) (xs.drop (i + 1)) s5).bind fun vs s => Res.ok (v :: vs) s).bind fun r s => Res.ok (acc ++ r) s := by
              cases lcL t c e (wipeE env vs) (xs.drop (i + 1)) s5 <;> first | rfl | skip
              simp [Res.bind]
            rw [e2]
            exact p2
  · have hi2 : i = xs.length := by omega
    subst hi2
    rw [List.drop_length] at p2
    refine .inl ⟨hJ.st _ φ2 G2 s2 H2 g2 (Nat.le_refl _), fin hD g2 f2 d2 ra (by omega) ?_⟩
    have p2 : ∀ φ' G' H', Go X.K Bs φ1 G1 s H1 φ' G' s2 H' → Post X.K (fun c d H => W c d σ H) Bs φ' G' s2 H' (k (acc ++ []) s2) (giveV X.K Q) := p2
    rw [List.append_nil] at p2
    exact p2
theorem lc_froz {σ : L2.St} {H : Hp} {Q : VK} {vs : List Nat} (hsub : ∀ i ∈ is, i ∈ vs) (h : RE X W (sLc it t c e vs) σ H Q) : tLc (RI X W it) (RG X.K is t) (RT X W0 c) (RE X W0 e) vs σ H Q := by
  refine lc_of hsub (fun {Bs φ1 G1 s H1 φ2 G2 s2 H2 acc accv D} hD g f d ra hz p => ?_) h
  have g3 := g.take hD f d
  have p3 := p _ _ _ g3
  split at p3
  · rename_i ds hd
    have r2 := (allD_rep hd ra).mono (same_up (o := .lst accv) f.2.1)
    exact p3 _ _ _ (Go.here g3.sim) _ (.d (.lst upd_same r2))
  · exact p3.elim
theorem lc_made {σ : L2.St} {H : Hp} {Q : VK} {vs : List Nat} (hsub : ∀ i ∈ is, i ∈ vs) (h : RE X W (sLcM it t c e vs) σ H Q) : tLc (RI X W it) (RG X.K is t) (RT X W0 c) (RE X W0 e) vs σ H Q := by
  refine lc_of hsub (fun {Bs φ1 G1 s H1 φ2 G2 s2 H2 acc accv D} hD g f d ra hz p => ?_) h
  have gE := g.erase hD f
  have p2 := p _ _ _ gE
  have hl : (s2.push (.l acc)).n = s2.n + 1 := by show (s2.obs ++ [some (Ob.l acc)]).length = _; rw [List.length_append]; rfl
  have p3 := p2 _ _ _ (Go.adopt (ob := .l acc) gE.sim d (.l ra)) (.ref (putφ φ2 s2.n D s2.n)) (.r (by rw [hl]; omega))
  rwa [putφ_same] at p3
theorem je_lc {k : SE} (hk : k = sLc it t c e (own.map (·.2)) ∨ k = sLcM it t c e (own.map (·.2))) (hc : X.calm = true) (hN : X.N.Nodup) (hi : JI X W tg iter it) (ok : BlkOk X.N X.env.scope scope own)
    (hg : ∀ (s : Shared) (H : Hp) (C : Addr) (cl : List (Str × Addr)) (fp : List Addr), JG (X.blk s H scope (compEnvC scope cl C X.env) fp) tg is t)
    (ht : ∀ (s : Shared) (H : Hp) (C : Addr) (cl : List (Str × Addr)) (fp : List Addr), JTs (X.blk s H scope (compEnvC scope cl C X.env) fp) ifs c)
    (he : ∀ (s : Shared) (H : Hp) (C : Addr) (cl : List (Str × Addr)) (fp : List Addr), JE (X.blk s H scope (compEnvC scope cl C X.env) fp) W0 elt e)
    (hsub : ∀ i ∈ is, i ∈ own.map (·.2) := by decide) (hs : ∀ x, foldedSetIterable iter X.env x = pure x := by intro _; rfl) : JE X W (.ListComp elt [⟨tg, iter, ifs, 0⟩] scope pos) k := by
  refine je_w (pe_lc (te := RE X W0 e) (tt := RT X W0 c) (g := RG X.K is t) hc hN hi ok hg ht he hs) fun σ H Q h => ?_
  rcases hk with rfl | rfl
  · exact lc_froz hsub h
  · exact lc_made hsub h
theorem js_setLc {i : Nat} {y : Str} {k : SE} (hk : k = sLc it t c e (own.map (·.2)) ∨ k = sLcM it t c e (own.map (·.2))) (hc : X.calm = true) (hN : X.N.Nodup) (hi : JI X W tg iter it) (ok : BlkOk X.N X.env.scope scope own)
    (hg : ∀ (s : Shared) (H : Hp) (C : Addr) (cl : List (Str × Addr)) (fp : List Addr), JG (X.blk s H scope (compEnvC scope cl C X.env) fp) tg is t)
    (ht : ∀ (s : Shared) (H : Hp) (C : Addr) (cl : List (Str × Addr)) (fp : List Addr), JTs (X.blk s H scope (compEnvC scope cl C X.env) fp) ifs c)
    (he : ∀ (s : Shared) (H : Hp) (C : Addr) (cl : List (Str × Addr)) (fp : List Addr), JE (X.blk s H scope (compEnvC scope cl C X.env) fp) W0 elt e)
    (hsw : swapsWith (.ListComp elt [⟨tg, iter, ifs, 0⟩] scope pos) (some (.Name y py)) spos.line X.env = pure true)
    (hy : X.N[i]? = some y := by rfl) (hyl : X.env.scope.names.lookup y = some .local := by rfl)
    (hsub : ∀ i ∈ is, i ∈ own.map (·.2) := by decide) (hs : ∀ x, foldedSetIterable iter X.env x = pure x := by intro _; rfl) : JS X W (.Assign [.Name y py] (.ListComp elt [⟨tg, iter, ifs, 0⟩] scope pos) spos) (xSet i k) := by
  refine js_w (ps_setLc (te := RE X W0 e) (tt := RT X W0 c) (g := RG X.K is t) (wi := RI X W it) hc hN hy hyl hsw hi ok hg ht he hs) fun D σ H ⟨φ, G, Bs, env, st, S, R, p⟩ => ?_
  have h : RE X W k σ H (fun x H1 => gName i x σ H1 D.nx) := ⟨φ, G, Bs, env, st, S, R, (p.toS R).imp fun v s φ1 G1 H1 g p1 lv r => p1 φ1 G1 H1 (Go.here g.sim) _ ((g.env R).set i r)⟩
  rcases hk with rfl | rfl
  · exact lc_froz hsub h
  · exact lc_made hsub h
end
end Vi

set_option maxHeartbeats 1000000
/-! Vi6: defs and their calls. -/
namespace Vi
open PySem PySem.Spec PyProof.Rows L2

/-- as the layer's contract of a def, where no guard runs around (what repr asks) -/
structure FnG (P : Program) (w : World) (K : PySem.W.Frag) (mg : Str → Option Value) (base : Heap) (k : Nat) (f : Addr) (fd : FuncData) (ps : List Str) (sp : Sp) : Prop where
  len : ∀ vs H Q E, sp vs H Q E → vs.length = ps.length
  run : ∀ (A : Around) (outer : List Env) (s : Shared) (H : Hp) (args : Args) (us : List Value) (vs : List LV) (Q : VK) (E : XK), A.guards = some [] → Room k A → Env0 P w K mg base A outer s H →
    BindsTo s fd args (ps.zip us) → Vals vs us → sp vs H Q E → codeAny (model P w) A (.call (.ref f) args) (CR (L2.CX P w) outer P w H s Q E) s
/-- what a function of the plain interpreter promises -/
def spF (K : PySem.W.Frag) (n : Nat) (F : FS) : Sp := fun vs H Q E => vs.length = n ∧ ∃ φ G Bs st as, SimS K φ G Bs st H ∧ RepVs K φ st.n G as vs ∧ Post K E Bs φ G st H (F as st) (giveV K Q)

/-! ### a def by its body -/
def dEnd (dr : Bool) (st : Sto) (v : Va) (s : Sto) : Res Va := if dr = true then (if v.lt st.n = true then .ok v ⟨s.obs.take st.n, st.base⟩ else .bad) else .ok v s
def dF (np ns : Nat) (dr : Bool) (body : SS) : FS := fun as st =>
  if as.length = np then
    match body (as.map some ++ List.replicate (ns - np) none) (if dr = true then ⟨st.obs, st.n⟩ else st) with
    | .ok (.rt v) s => dEnd dr st v s
    | .ok (.nx _) s => dEnd dr st (.d .none) s
    | .ok (.ex c x _) s => if dr = true then (if x.lt st.n = true then .exn c x ⟨s.obs.take st.n, st.base⟩ else .bad) else .exn c x s
    | _ => .bad
  else .bad
section
variable {K : PySem.W.Frag} {Bs : List Nat} {φ φ' : Nat → Addr} {G G' : Hp} {st s : Sto} {H H' : Hp}
/-- behind a def whose objects are dropped -/
theorem Go.drop (S : SimS K φ G Bs st H) (g : Go K (st.n :: Bs) φ G ⟨st.obs, st.n⟩ H φ' G' s H') : Go K Bs φ G st H φ' G' ⟨s.obs.take st.n, st.base⟩ H' := by
  have hle : st.n ≤ s.obs.length := g.le
  have hl : (s.obs.take st.n).length = st.n := by rw [List.length_take]; exact Nat.min_eq_left hle
  refine ⟨g.ext, Nat.le_of_eq hl.symm, rfl, fun p hp => ?_, g.sim.leave g.le S.bl fun b hb => (S.bs b hb).1⟩
  obtain ⟨e1, f1, f2, f3⟩ := g.fr p hp
  refine ⟨e1, f1, f2, fun i o e => ?_⟩
  by_cases hi : i < st.n
  · rw [List.getElem?_take_of_lt hi] at e
    exact f3 i o e
  · rw [List.getElem?_eq_none (by rw [hl]; omega)] at e
    cases e
theorem cutEnd {v : Va} {lv : LV} (r : RepV K φ' s.n G' v lv) (h : v.lt st.n = true) (hle : st.n ≤ s.n) : RepV K φ' (⟨s.obs.take st.n, st.base⟩ : Sto).n G' v lv := by
  have hl : (s.obs.take st.n).length = st.n := by rw [List.length_take]; exact Nat.min_eq_left hle
  show RepV K φ' (s.obs.take st.n).length G' v lv
  rw [hl]
  exact r.cut h
end
section
variable {X : Cx} {np ns : Nat} {dr : Bool} {b : SS} {body : List Stmt} {E : XK} {Q : VK}
theorem start_rep {K : PySem.W.Frag} {φ : Nat → Addr} {n : Nat} {G : Hp} {N : List Str} {as : List Va} {vs : List LV} (r : RepVs K φ n G as vs) (hN : N.length = ns) (ha : as.length = np) : EnvR K φ n G (as.map some ++ List.replicate (ns - np) none) (L2.start N vs) := by
  have hl := r.length
  refine ⟨?_, fun i v h => ?_⟩
  · unfold L2.start
    rw [List.length_append, List.length_append, List.length_map, List.length_map, List.length_replicate, List.length_replicate, hN, ← hl, ha]
  · have hi : i < as.length := by
      by_cases hi : i < as.length
      · exact hi
      · rw [List.getElem?_append_right (by rw [List.length_map]; omega), List.getElem?_replicate] at h
        split at h <;> cases h
    rw [List.getElem?_append_left (by rw [List.length_map]; exact hi), List.getElem?_map] at h
    cases e : as[i]? with
    | none => rw [e] at h; cases h
    | some a =>
      rw [e] at h
      cases h
      obtain ⟨lv, h1, h2⟩ := r.get e
      refine ⟨lv, ?_, h2⟩
      unfold L2.start
      rw [List.getElem?_append_left (by rw [List.length_map, ← hl]; exact hi), List.getElem?_map, h1]
      rfl
/-- the body's reading, from the def's promise -/
theorem body_of {N : List Str} {vs : List LV} {H : Hp} (hN : N.length = ns) (h : spF X.K np (dF np ns dr b) vs H Q E) :
    RS X (fun c d _ H => E c d H) b { nx := fun _ H' => Q .non H', rt := Q } (L2.start N vs) H := by
  obtain ⟨hv, φ, G, Bs, st, as, S, ra, p⟩ := h
  have ha : as.length = np := by rw [ra.length]; exact hv
  unfold dF at p
  rw [if_pos ha] at p
  cases dr with
  | false =>
    have p : Post X.K E Bs φ G st H (match b (as.map some ++ List.replicate (ns - np) none) st with
      | .ok (.rt v) s => dEnd false st v s
      | .ok (.nx _) s => dEnd false st (.d .none) s
      | .ok (.ex c x _) s => Res.exn c x s
      | _ => .bad) (giveV X.K Q) := p
    refine ⟨φ, G, Bs, _, st, S, start_rep ra hN ha, ?_⟩
    cases hb : b (as.map some ++ List.replicate (ns - np) none) st with
    | bad => rw [hb] at p; exact p.elim
    | exn _ _ _ => rw [hb] at p; exact p.elim
    | ok o s =>
      rw [hb] at p
      cases o with
      | rt v => exact p
      | nx e => exact fun φ' G' H' g σ R => p φ' G' H' g _ (.d .non)
      | bk e => exact p.elim
      | ct e => exact p.elim
      | ex c x e => exact fun φ' G' H' g σ dd lv R hd rv => p φ' G' H' dd lv g hd rv
  | true =>
    have p : Post X.K E Bs φ G st H (match b (as.map some ++ List.replicate (ns - np) none) ⟨st.obs, st.n⟩ with
      | .ok (.rt v) s => dEnd true st v s
      | .ok (.nx _) s => dEnd true st (.d .none) s
      | .ok (.ex c x _) s => if x.lt st.n = true then Res.exn c x ⟨s.obs.take st.n, st.base⟩ else .bad
      | _ => .bad) (giveV X.K Q) := p
    refine ⟨φ, G, st.n :: Bs, _, ⟨st.obs, st.n⟩, S.enter S.wf, start_rep ra hN ha, ?_⟩
    cases hb : b (as.map some ++ List.replicate (ns - np) none) ⟨st.obs, st.n⟩ with
    | bad => rw [hb] at p; exact p.elim
    | exn _ _ _ => rw [hb] at p; exact p.elim
    | ok o s =>
      rw [hb] at p
      cases o with
      | rt v =>
        have p : Post X.K E Bs φ G st H (if v.lt st.n = true then Res.ok v ⟨s.obs.take st.n, st.base⟩ else .bad) (giveV X.K Q) := p
        split at p
        · rename_i hv
          exact fun φ' G' H' g lv r => p φ' G' H' (g.drop S) lv (cutEnd r hv g.le)
        · exact p.elim
      | nx e =>
        exact fun φ' G' H' g σ R => p φ' G' H' (g.drop S) _ (.d .non)
      | bk e => exact p.elim
      | ct e => exact p.elim
      | ex c x e =>
        have p : Post X.K E Bs φ G st H (if x.lt st.n = true then Res.exn c x ⟨s.obs.take st.n, st.base⟩ else .bad) (giveV X.K Q) := p
        split at p
        · rename_i hv
          exact fun φ' G' H' g σ dd lv R hd rv => p φ' G' H' dd lv (g.drop S) hd (cutEnd rv hv g.le)
        · exact p.elim
end

/-- the context of a def's body -/
abbrev bx (P : Program) (w : World) (K : PySem.W.Frag) (mg : Str → Option Value) (base : Heap) (N : List Str) (q : Str) (st : Stmt) (f : Addr) (cd : Value) (A : Around) (outer : List Env) (s : Shared) (H : Hp) (E : XK) : Cx :=
  cxOf (L2.CX P w) P w K mg base N q (defScope st) f cd A outer s H E
/-- what the rules of a body ask of its context -/
structure Bd (X : Cx) (W : WX) (k : Nat) : Prop where
  fit : Fit X
  room : Room k X.A
  own : PassesOwn (model X.prog X.w) X.A X.env X.xe
  tk : Takes X W
theorem deep_guards {A : Around} {env : Env} (h : A.guards = some []) : (A.deeper env).guards = some [] := by
  first | exact h | simpa [Around.deeper] using h
section
variable {P : Program} {w : World} {K : PySem.W.Frag} {mg : Str → Option Value} {base : Heap} {k np ns : Nat} {dr : Bool} {b : SS} {x q : Str} {st : Stmt} {f : Addr} {fd : FuncData} {N ps : List Str}
/-- a def of the text is what its body is in the plain interpreter -/
theorem fng_of (F : Fun K x q st f fd) (S : FnScope N ps (defScope st)) (hN : N.length = ns) (hp : ps.length = np)
    (hb : ∀ (cd : Value) (A : Around) (outer : List Env) (s : Shared) (H : Hp) (E : XK), Bd (bx P w K mg base N q st f cd A outer s H E) (fun c d _ H => E c d H) k →
      JB (bx P w K mg base N q st f cd A outer s H E) (fun c d _ H => E c d H) (defBody st) b) :
    FnG P w K mg base (k + 1) f fd ps (spF K np (dF np ns dr b)) := by
  refine ⟨fun vs H Q E h => by rw [hp]; exact h.1, ?_⟩
  intro A outer s H args us vs Q E hgd hr e0 hbi r hsp
  obtain ⟨oc, od, kV, doc, pm, an, cd, ct, osl, rfl, lk, hcd⟩ := F.ex
  have hl : vs.length = ps.length := by rw [hp]; exact hsp.1
  have KX : K.In s.heap := e0.mod.kin.keeps fun b o e => (e0.bs b o e).1
  have lim : s.heap.NoLimit := e0.mod.nolimit.keeps fun b o e => (e0.bs b o e).1
  have kinds : ∀ y ∈ ps.zip us, (defScope st).names.lookup y.1 = some .local ∨
      ((defScope st).names.lookup y.1 = some .cell ∧ ((cellsFrom (s.heap.objs.size + 1) (defScope st).names []).lookup y.1).isSome = true) := by
    rintro ⟨n, v⟩ hy
    rcases S.par n (List.of_mem_zip hy).1 with z | z
    · exact .inl z
    · exact .inr ⟨z, PySem.W.cellsFrom_some _ _ _ (.inl z)⟩
  refine codeAny_call_function hr.depth (KX _ _ lk) rfl S.co S.gen rfl (PySem.W.codeRec_of KX hcd) (hbi _ _ _ _ ?_)
  refine wpAny_newFunctionEnv_cells S.kind kinds fun env he s1 ic => ?_
  subst he
  refine ⟨lim.keeps ic.toInCall.keep, codeAny_func ?_⟩
  have I : Inv (bx P w K mg base N q st f cd A outer s H E) [] (L2.start N vs) H s1 := inv_start S hr.hd e0 hl r ic
  have hr' := hr.deeper (envOfC q (defScope st) s.heap.objs.size f cd)
  have hB : Bd (bx P w K mg base N q st f cd A outer s H E) (fun c d _ H => E c d H) k :=
    ⟨⟨deep_guards hgd, by have := hr'.un; show (A.deeper (envOfC q (defScope st) s.heap.objs.size f cd)).units + 160 < cLine; omega, rfl⟩, hr', passes_of (K := fun e s'' => L2.CX P w outer H s E e s'') rfl, takes_of rfl rfl rfl rfl⟩
  have J := hb cd A outer s H E hB
  refine wpAny_mono (J.run [] s1 (L2.start N vs) H { nx := fun _ H' => Q .non H', rt := Q } I (body_of hN hsp)) (fun fl s' hs => ?_) fun e s' hs => hs
  have fin : ∀ {σ' : L2.St} {H' : Hp} {v : LV} {u : Value}, Inv (bx P w K mg base N q st f cd A outer s H E) [] σ' H' s' → RelV v u → Q v H' → CE outer P w H s Q u s' :=
    fun {σ' H' v u} J rv hq => ⟨v, H', J.os, J.bare, J.base, J.hok, rv, hq⟩
  cases fl with
  | ret u =>
    obtain ⟨v, σ', H', J, rv, hq⟩ := hs
    exact fin J rv hq
  | next =>
    obtain ⟨σ', H', J, hq⟩ := hs
    exact fin (v := V.non) (u := Value.none) J rfl hq
  | brk =>
    obtain ⟨_, _, _, z⟩ := hs
    exact z.elim
  | cont =>
    obtain ⟨_, _, _, z⟩ := hs
    exact z.elim
end
theorem Bd.blk {X : Cx} {W : WX} {k : Nat} (B : Bd X W k) (s : Shared) (H : Hp) (scope : Scope) (cenv : Env) (fp : List Addr) : Bd (X.blk s H scope cenv fp) W0 k := ⟨⟨B.fit.gd, B.fit.un, B.fit.calm⟩, B.room, PassesOwn.never, takes0⟩

/-! ### calls -/
/-- a def that may be called by its name -/
structure FnT (P : Program) (w : World) (K : PySem.W.Frag) (mg : Str → Option Value) (base : Heap) (k : Nat) (x : Str) (ps : List Str) (st : Stmt) (F : FS) : Prop where
  ex : ∃ f fd, Fun K x x st f fd ∧ mg x = some (.ref f) ∧ FnG P w K mg base k f fd ps (spF K ps.length F)
  no : ∀ as s, as.length ≠ ps.length → F as s = .bad
/-- positional arguments bind as they stand -/
def BindP (x : Str) (st : Stmt) (ps : List Str) : Prop := ∀ (kV doc pm : Value) (an : Option Addr) (cdv ct : Value) (us : List Value), us.length = ps.length → bindArgs (PySem.W.fnOf x x (defArgs st) (defBody st) (defScope st) .none kV doc pm an cdv ct) ⟨us, []⟩ = pure (ps.zip us)
def sF (F : FS) (a : SA) : SE := fun env st => (a env st).bind fun vs s => F vs s
section
variable {X : Cx} {W : WX} {k : Nat} {x : Str} {ps : List Str} {st : Stmt} {F : FS} {e : Expr} {es : List Expr} {fa : SA} {p pos : Pos}
/-- the callee runs, by values -/
theorem run_g {pins : List (Addr × Obj)} {σ : L2.St} {H : Hp} {s : Shared} {Q : VK} {f : Addr} {fd : FuncData} {us : List Value} {vs : List LV} {φ : Nat → Addr} {G : Hp} {Bs : List Nat} {sto : Sto} {as : List Va} {us0 : List Value} {kw : List (Str × Value)}
    (T : FnG X.prog X.w X.K X.mg X.base k f fd ps (spF X.K ps.length F)) (B : Bd X W k) (I : Inv X pins σ H s) (hb : BindsTo s fd ⟨us0, kw⟩ (ps.zip us)) (r : Vals vs us) (hl : vs.length = ps.length)
    (S : SimS X.K φ G Bs sto H) (ra : RepVs X.K φ sto.n G as vs) (q : Post X.K (fun c d H => W c d σ H) Bs φ G sto H (F as sto) (giveV X.K Q)) : wpAny (model X.prog X.w) X.A (call (.ref f) us0 kw) (EP X pins σ Q) X.xe s := by
  refine wpAny_call (codeAny_mono (T.run X.A X.stack s H ⟨us0, kw⟩ us vs Q (fun c d H => W c d σ H) B.fit.gd B.room I.env0 hb r ⟨hl, φ, G, Bs, sto, as, S, ra, q⟩) fun rr s' hq => ?_)
  cases rr with
  | error e =>
    have W' : WX := fun c d σ' H => W c d σ' H
    exact B.tk e s' (XE.of_call (W := W) I (fun cls d H' h => h) hq)
  | ok fl =>
    cases fl with
    | ret u => exact I.after hq
    | next => exact False.elim hq
    | brk => exact False.elim hq
    | cont => exact False.elim hq
theorem je_f (B : Bd X W k) (T : FnT X.prog X.w X.K X.mg X.base k x ps st F) (hb : BindP x st ps) (hg : Gl X x) (ha : JA X W (e :: es) fa) (hl : (e :: es).length = ps.length := by rfl) (hdb : (x == ("__debug__" : Str)) = false := by decide)
    (he : starEach (e :: es) X.env = (false, eval e X.env) :: starEach es X.env := by rfl) (hpl : (backTo pos (starEach es X.env)).any (·.1) = false := by rfl) : JE X W (.Call (.Name x p) (e :: es) [] pos) (sF F fa) := by
  have no := T.no
  obtain ⟨f, fd, Fn, hm, T⟩ := T.ex
  refine ⟨fun pins s σ H Q I ⟨φ, G, Bs, env, sto, S, R, q⟩ => ?_⟩
  refine wpAny_Call_Name_kw (ld_glob I hg hm ?_ hdb)
  refine PySem.W.callWith_K (h₀ := X.base) I.ok.mod.kin Fn.kp (thn (ha.run pos pins s σ H (fun vs H1 => ∃ φ1 G1 s1 as, SimS X.K φ1 G1 Bs s1 H1 ∧ RepVs X.K φ1 s1.n G1 as vs ∧ Post X.K (fun c d H => W c d σ H) Bs φ1 G1 s1 H1 (F as s1) (giveV X.K Q)) I
    ⟨φ, G, Bs, env, sto, S, R, q.bind.imp fun as s1 φ1 G1 H1 g p1 lvs r => ⟨φ1, G1, s1, as, g.sim, r, p1⟩⟩) fun us s1 ⟨vs, H1, I1, r, φ1, G1, st1, as, S1, r1, p1⟩ => ⟨I1.kIn, ?_⟩) he hpl
  by_cases hlen : vs.length = ps.length
  · have ra := r1
    have hB := Fn.binds (ps := ps) hb
    have hbt := hB s1 us I1.kIn (by rw [List.append_nil, ← r.length, hlen])
    rw [List.append_nil] at hbt
    exact run_g T B I1 hbt r hlen S1 ra p1
  · rw [no as st1 (fun e => hlen (r1.length.symm.trans e))] at p1
    exact p1.elim
end
end Vi

set_option maxHeartbeats 1000000
/-! Vi7: enumerate over tuples. -/
namespace Vi
open PySem PySem.Spec PyProof.Rows L2
open Sem (wp)

theorem enumNew1 {v : Value} {o : Obj} {Hh : Heap → Prop} (B : Begins v o Hh) :
    Meets (Builtin.«enumerate.__new__» ⟨[.type "enumerate", v], []⟩) (fun _ R s => Hh s.heap ∧ R (.ok (.ret (.ref (s.heap.push o).objs.size))) { s with heap := (s.heap.push o).push { cls := .type "enumerate", data := .fields #[.none, .bool false, .ref s.heap.objs.size, rawInt 0, .none, .none] } }) :=
  .of_wp fun prog w A R s hh => by
    obtain ⟨hp, g, d, tk, os⟩ := s
    obtain ⟨hb, hr⟩ := hh
    have hsb := sub_enumerate
    have step : ∀ {A' : Around} {E : Value → Shared → Prop} {Q : Value → Shared → Prop}, Q (.ref hp.objs.size) ⟨hp.push o, g, d, tk, os⟩ → wpAny (model prog w) A' (pyIter v) Q E ⟨hp, g, d, tk, os⟩ := fun q => B.iter prog w _ _ ⟨hp, g, d, tk, os⟩ _ hb q
    wp_walk using step
    refine wpAny_stack_any fun st => wpAny_pure ?_
    split
    · rename_i c _ _ _ _ _
      cases (c == Value.type "enumerate") <;> (wp_walk using step; exact ⟨_, rfl, hr⟩)
    · wp_walk using step
      exact ⟨_, rfl, hr⟩
section
variable {prog : Program} {w : World} {A : Around} {E : Value → Shared → Prop} {s : Shared}
theorem enum_call1 {v : Value} {o : Obj} {Hh : Heap → Prop} {Q : Value → Shared → Prop} (B : Begins v o Hh) (h1 : Hh s.heap)
    (fin : ∀ h', IsEnum h' (s.heap.objs.size + 1) s.heap.objs.size 0 .none → h'.get? s.heap.objs.size = some o → h'.objs.size = s.heap.objs.size + 2 → (∀ b o', s.heap.get? b = some o' → h'.get? b = some o') → Q (.ref (s.heap.objs.size + 1)) { s with heap := h' }) :
    wpAny (model prog w) A (call (.type "enumerate") [v]) Q E s := by
  refine callType_new F.called_enumerate (by decide) (F.typeCall_enumerate_1 _) (F.newCall_enumerate_1 _) (fun obj => F.args_object_init_2 obj _) F.entry_enumerate_new (enumNew1 B) ⟨h1, ?_⟩
  have sz : (s.heap.push o).objs.size = s.heap.objs.size + 1 := Heap.size_push ..
  show _ ∧ _
  rw [sz]
  have mk : IsEnum ((s.heap.push o).push { cls := .type "enumerate", data := .fields #[.none, .bool false, .ref s.heap.objs.size, rawInt 0, .none, .none] }) (s.heap.objs.size + 1) s.heap.objs.size 0 .none := by
    have z := Heap.get?_push_size (s.heap.push o) (o := { cls := .type "enumerate", data := .fields #[.none, .bool false, .ref s.heap.objs.size, rawInt 0, .none, .none] }) rfl
    rwa [sz] at z
  exact ⟨⟨_, mk, rfl⟩, fin _ mk (Heap.get?_push_of_some _ (Heap.get?_push_size _ B.free)) (by rw [Heap.size_push, sz]) fun b o' x => Heap.get?_push_of_some _ (Heap.get?_push_of_some _ x)⟩
end
/-- the tuple at a, each item in a new pair -/
def IteT (K : PySem.W.Frag) (a : Addr) : It where
  go := fun i H => ∃ (xs : List LV) (x : LV), SqT K H a xs ∧ xs[i]? = some x
  yld := fun i H v H' => ∃ T x, v = .ref T ∧ H T = none ∧ H' = upd H T (.tup [.int (i : Nat), x]) ∧ ∀ xs, SqT K H a xs → xs[i]? = some x
  stop := fun i H => ∃ xs : List LV, SqT K H a xs ∧ xs.length ≤ i
theorem turn_enumT {P : Program} {w : World} {K : PySem.W.Frag} {elts : List Expr} {kk : Nat} {tpos : Pos} (a e it : Addr) :
    Turn P w K (.Tuple elts kk tpos) (IteT K a) [e, it] e (fun i h => (∃ old, IsEnum h e it ((i : Nat) : Int) old) ∧ h.IsTupleIter it a i ∧ e ≠ it) where
  mem := by simp
  obj := fun i h st b hb => by
    obtain ⟨⟨old, he⟩, ⟨o, ho, hc, hd⟩, _⟩ := st
    rcases (by simpa using hb : b = e ∨ b = it) with z | z
    · subst z
      exact ⟨_, he, fun v q => nomatch q⟩
    · subst z
      exact ⟨o, ho, fun v q => by rw [hd] at q; cases q⟩
  keep := fun i h h' st k => by
    obtain ⟨⟨old, he⟩, hi, hne⟩ := st
    exact ⟨⟨old, k e (by simp) _ he⟩, hi.at fun o q => k it (by simp) o q, hne⟩
  item := by
    intro X hP hw hK hc i pins s σ H E I hf st hg
    subst hP hw hK
    obtain ⟨⟨old, he⟩, hit, hne⟩ := st
    obtain ⟨xs, x, sq, hx⟩ := hg
    obtain ⟨vs, rel, tp, _⟩ := I.tuple sq
    obtain ⟨u, hu, ru⟩ := rel.get hx
    have el : e < s.heap.objs.size := Heap.lt_size he
    have il : it < s.heap.objs.size := let ⟨_, q, _⟩ := hit; Heap.lt_size q
    have tp : s.heap.IsTuple a vs.toArray := tp
    have apI : a ≠ it := fun z => by
      obtain ⟨o1, e1, c1, _⟩ := tp
      obtain ⟨o2, e2, c2, _⟩ := hit
      rw [z, e2] at e1
      cases e1
      rw [c2] at c1
      exact absurd c1 (by decide)
    have apE : a ≠ e := fun z => by
      obtain ⟨o1, e1, c1, _⟩ := tp
      rw [z, he] at e1
      cases e1
      exact absurd (show (Value.type "enumerate") = Value.type "tuple" from c1) (by decide)
    have D := Draws.tuple (prog := X.prog) (w := X.w) (A := X.A.in1) (show X.A.in1.handled = none from I.ok.hd hc) it a apI vs.toArray
    have lt : i < vs.toArray.size := by
      have := (List.getElem?_eq_some_iff.mp hu).1
      simpa using this
    refine wpAny_pyNext_enum_itemC D he ⟨hit, tp⟩ lt hne (by simp [hne, Ne.symm apE]) fun y h' tk hy ho hst hT hsz hk => ?_
    have yu : y = u := by
      have hy : vs.toArray[i]? = some y := hy
      rw [← Array.getElem?_toList] at hy
      exact Option.some.inj (hy.symm.trans hu)
    subst yu
    refine ⟨_, rfl, wpAny_letOwnedTupleGo_enum (s := { s with heap := h', toks := tk + 1 }) ho fun h2 he' sb => ?_⟩
    have hT2 : h2.get? s.heap.objs.size = some { cls := .type "tuple", data := .seq #[.int i tk, y] } := (sb.2 _ (Nat.ne_of_gt el)).trans hT
    have new : ObjOk X.prog X.w (upd H s.heap.objs.size (.tup [.int (i : Nat), x])) h2 s.heap.objs.size (.tup [.int (i : Nat), x]) :=
      ⟨by show 2 ≤ sizeLine; decide, [.int i tk, y], .cons ⟨_, rfl⟩ (.cons ru .nil), ⟨_, hT2, rfl, _, rfl⟩⟩
    have I1 : Inv X pins σ (upd H s.heap.objs.size (.tup [.int (i : Nat), x])) { s with heap := h2, toks := tk + 1 } :=
      I.turnedNew (ch := [e, it]) (fun b ob hb q => (sb.2 b (fun z => hb (by simp [z]))).trans (hk b ob (fun z => hb (by simp [z])) (fun z => hb (by simp [z])) q)) hf (Nat.le_refl _) new
    refine ⟨.ref s.heap.objs.size, _, I1, rfl, ⟨_, x, rfl, I.hok.fresh (Nat.le_refl _), rfl, fun ys hy => by rw [I.tuple_inj hy sq]; exact hx⟩, ⟨⟨y, ?_⟩, hst.1.at fun o q => (sb.2 it (Ne.symm hne)).trans q, hne⟩, fun b hb => ?_⟩
    · rw [show ((i + 1 : Nat) : Int) = (i : Int) + 1 by omega]
      exact he'
    · have lb : b < s.heap.objs.size := by
        rcases (by simpa using hb : b = e ∨ b = it) with z | z <;> rw [z] <;> assumption
      rw [upd_ne (Nat.ne_of_lt lb)]
      exact (hf b hb).1
  done := by
    intro X hP hw hK hc i pins s σ H E I hf st hg
    subst hP hw hK
    obtain ⟨⟨old, he⟩, hit, hne⟩ := st
    obtain ⟨xs, sq, hx⟩ := hg
    obtain ⟨vs, rel, tp, _⟩ := I.tuple sq
    obtain ⟨f0, f1, f2, f3, f4, f5⟩ := hf it (by simp)
    have hl := rel.length
    have hT : s.TypeIs (.ref e) "enumerate" := ⟨_, he, rfl⟩
    unfold pyNext
    refine wpAny_bind (wpAny_attempt (wpAny_callSpecial?_slot (name := Str.ofString "__next__") hT F.slot_enumerate_next (wpAny_call_entry F.slot_enumerate_next hT F.entry_enumerate_next ?_ (F.args_enumerate_next_1 _))))
    show wpAny _ _ (field (.ref e) 2 >>= _) _ _ _
    refine wpAny_bind (wpAny_field he rfl (x := .ref it) rfl ?_)
    refine wpAny_bind (wpAny_nextOf_tuple_end (show X.A.in1.handled = none from I.ok.hd hc) hit (show s.heap.IsTuple a vs.toArray from tp) (by simp; omega) fun h' x hx1 hx2 => ?_)
    obtain ⟨o, ho, hcl⟩ := hx2
    refine wpAny_bind (wpAny_isInstance (T := "StopIteration") (b := true) ⟨o, ho, hcl⟩ isSubtype_stop ?_)
    exact wpAny_pure ⟨rfl, I.turned (t' := s.toks) (fun b o hb q => hx1 b o hb q) f0 f1 f3 f4 f5⟩
  self := fun A i s Q E st h => let ⟨⟨_, he⟩, _⟩ := st; wpAny_pyIter_enum he h
def iEnumT (K : PySem.W.Frag) (ta : TA) : TI := fun σ H R => ta σ H fun vs H1 => ∃ a xs, vs = [.ref a] ∧ ((SqL K H1 a xs ∧ R (Ite K a) H1) ∨ (SqT K H1 a xs ∧ R (IteT K a) H1))
theorem pi_enumT {X : Cx} {e : Expr} {ta : TA} {p pos tpos : Pos} {elts : List Expr} {kk : Nat} (hg : Gl X "enumerate") (hm : X.mg "enumerate" = none) (ha : PA X [e] ta) (hs : starEach [e] X.env = [(false, eval e X.env)] := by rfl) :
    PI X (.Tuple elts kk tpos) (.Call (.Name "enumerate" p) [e] [] pos) (iEnumT X.K ta) := by
  refine ⟨fun pins s σ H R I h => ?_⟩
  refine Call_ (ld_blt I hg hm boot_enumerate (PyProof.Rows.callWith_type1 (thn (ha.run pos pins s σ H _ I h) fun us s1 ⟨vs, H1, I1, r1, q1⟩ => ?_) hs rfl))
  obtain ⟨a, xs, ex, q1⟩ := q1
  subst ex
  have fp : ∀ b ∈ [s1.heap.objs.size + 1, s1.heap.objs.size], FpOk X pins H1 b := fun b hb => by
    have hle : s1.heap.objs.size ≤ b := by
      rcases (by simpa using hb : b = s1.heap.objs.size + 1 ∨ b = s1.heap.objs.size) with z | z <;> rw [z]
      · exact Nat.le_add_right _ _
      · exact Nat.le_refl _
    exact I1.fpOk hle (I1.hok.fresh hle)
  obtain ⟨u, rfl, ru⟩ := r1.one
  cases ru
  rcases q1 with ⟨sq, q⟩ | ⟨sq, q⟩
  · obtain ⟨its, rv, pl, _⟩ := I1.list sq
    refine call_enumerate_list pl.isList fun h' he hit hsz hk => wpAny_pyIter_enum he ?_
    have I2 : Inv X pins σ H1 { s1 with heap := h' } := I1.kept (t' := s1.toks) hk
    exact ⟨s1.heap.objs.size + 1, [s1.heap.objs.size + 1, s1.heap.objs.size], _, _, H1, rfl, I2, turn_enum a (s1.heap.objs.size + 1) s1.heap.objs.size, ⟨⟨.none, he⟩, hit, Nat.succ_ne_self _⟩, fp, q⟩
  · obtain ⟨its, rv, pl, _⟩ := I1.tuple sq
    refine enum_call1 (begins_tuple a its.toArray) (show s1.heap.IsTuple a its.toArray from pl) fun h' he hit hsz hk => wpAny_pyIter_enum he ?_
    have I2 : Inv X pins σ H1 { s1 with heap := h' } := I1.kept (t' := s1.toks) hk
    exact ⟨s1.heap.objs.size + 1, [s1.heap.objs.size + 1, s1.heap.objs.size], _, _, H1, rfl, I2, turn_enumT a (s1.heap.objs.size + 1) s1.heap.objs.size, ⟨⟨.none, he⟩, ⟨_, hit, rfl, rfl⟩, Nat.succ_ne_self _⟩, fp, q⟩
section
variable {K : PySem.W.Frag} {φ : Nat → Addr} {G : Hp} {Bs : List Nat} {st : Sto} {H : Hp}
theorem yl_enumT {a : Addr} {ys : List LV} {xs : List Va} (S : SimS K φ G Bs st H) (h : SqT K G a ys) (r : RepVs K φ st.n G xs ys) : Yl K Bs (IteT K a) (enumL 0 xs) φ G st H where
  go := fun i φ' G' st' H' g hi => by
    rw [enumL_len] at hi
    have hi' : i < ys.length := by rw [← r.length]; exact hi
    exact ⟨ys, ys[i], sqT_mono g.sim.sub (sqT_mono g.ext.gr h), List.getElem?_eq_getElem hi'⟩
  yl := fun i v φ' G' st' H' x H'' g hv ⟨T, y, e1, e2, e3, e4⟩ => by
    subst e1 e3
    obtain ⟨u, h1, rfl⟩ := enumL_get 0 xs i v hv
    obtain ⟨w, h2, h3⟩ := r.get h1
    have := e4 ys (sqT_mono g.sim.sub (sqT_mono g.ext.gr h))
    rw [h2] at this
    cases this
    have sg : Same G' (upd G' T (.tup [.int (i : Nat), y])) := same_up (g.sim.gnone e2)
    refine ⟨_, Go.laid g.sim e2, mkT_rep (.of upd_same) (two_reps (.d ?_) ((g.v h3).mono (Nat.le_refl _) (fun _ _ => rfl) sg))⟩
    rw [Nat.zero_add]
    exact .int _
  st := fun i φ' G' st' H' g hi => by
    rw [enumL_len] at hi
    exact ⟨ys, sqT_mono g.sim.sub (sqT_mono g.ext.gr h), by rw [← r.length]; exact hi⟩
end
def frozQ (v : Va) : Option (List Va) := match frozL v with
  | some xs => some xs
  | none => frozT v
def sEnm (f : SA) : SI := fun env st => (f env st).bind fun vs s => match vs with
  | [v] => (match frozQ v with
    | some xs => .ok (enumL 0 xs) s
    | none => .bad)
  | _ => .bad
section
variable {X : Cx} {W : WX} {e : Expr} {fa : SA} {p pos tpos : Pos} {elts : List Expr} {kk : Nat}
theorem ji_enm (hg : Gl X "enumerate") (hm : X.mg "enumerate" = none) (ha : JA X W [e] fa) (hs : starEach [e] X.env = [(false, eval e X.env)] := by rfl) : JI X W (.Tuple elts kk tpos) (.Call (.Name "enumerate" p) [e] [] pos) (sEnm fa) := by
  refine ⟨fun pins s σ H R I ⟨φ, G, Bs, env, st, S, Re, q⟩ => (pi_enumT hg hm ha hs).run pins s σ H R I ?_⟩
  refine ⟨φ, G, Bs, env, st, S, Re, q.bind.imp fun vs s φ1 G1 H1 g p1 lvs r => ?_⟩
  split at p1
  · split at p1
    · rename_i v _ xs hf
      obtain ⟨x, rfl, r1⟩ := one_rep r
      unfold frozQ at hf
      cases e1 : frozL v with
      | some zs =>
        rw [e1] at hf
        cases hf
        obtain ⟨a, ys, rfl, h1, h2⟩ := frozL_rep r1 e1
        exact ⟨a, ys, rfl, .inl ⟨sqL_mono g.sim.sub h1, p1 φ1 G1 H1 (Go.here g.sim) _ (yl_enum g.sim h1 h2)⟩⟩
      | none =>
        rw [e1] at hf
        obtain ⟨a, ys, rfl, h1, h2⟩ := frozT_rep r1 hf
        exact ⟨a, ys, rfl, .inr ⟨sqT_mono g.sim.sub h1, p1 φ1 G1 H1 (Go.here g.sim) _ (yl_enumT g.sim h1 h2)⟩⟩
    · exact p1.elim
  · exact p1.elim
end
end Vi

set_option maxHeartbeats 1000000
/-! Vi8: methods, stores by subscripts, keyword calls, isinstance, dicts of the module. -/
namespace Vi
open PySem PySem.Spec PyProof.Rows L2

/-! ### methods by values -/
inductive Ty where
  | str
  | int
  | lst
  | dct
  | no
def Ty.name : Ty → String
  | .str => "str"
  | .int => "int"
  | .lst => "list"
  | .dct => "dict"
  | .no => "?"
def tyo : Va → Sto → Ty
  | .d (.str _), _ => .str
  | .d (.int _), _ => .int
  | .d (.list _), _ => .lst
  | .d (.dict _), _ => .dct
  | .s _, _ => .lst
  | .r i, st => match st.obs[i]? with
    | some (some (.l _)) => .lst
    | some (some (.m _)) => .dct
    | _ => .no
  | _, _ => .no
def Ty.same : Ty → Ty → Bool
  | .str, .str => true
  | .int, .int => true
  | .lst, .lst => true
  | .dct, .dct => true
  | _, _ => false
abbrev MV := Va → List Va → Sto → Option (Va × Sto)
def RM (K : PySem.W.Frag) (g : MV) : LV → List LV → Hp → VK → Prop := fun x xs H Q => ∃ φ G Bs st a as, SimS K φ G Bs st H ∧ RepV K φ st.n G a x ∧ RepVs K φ st.n G as xs ∧ Post K E0 Bs φ G st H (lift (g a as st)) (giveV K Q)
def JM (X : Cx) (id : String) (g : MV) : Prop := MtR X id (RM X.K g)
def sMt (k : Ty) (g : MV) (o : SE) (a : SA) : SE := fun env st => (o env st).bind fun v s => if Ty.same (tyo v s) k = true then (a env s).bind fun vs s => lift (g v vs s) else .bad
theorem tyo_rep {K : PySem.W.Frag} {φ : Nat → Addr} {G : Hp} {Bs : List Nat} {st : Sto} {H : Hp} (S : SimS K φ G Bs st H) {v : Va} {x : LV} {k : Ty} (r : RepV K φ st.n G v x) (e : Ty.same (tyo v st) k = true) : tyV K k.name x H := by
  cases r with
  | d r =>
    cases r with
    | str z => cases k <;> first | rfl | cases e
    | int z => cases k <;> first | rfl | cases e
    | lst s r => cases k <;> first | exact .inl ⟨rfl, _, .of (S.sub _ _ s)⟩ | cases e
    | dct s r => cases k <;> first | exact .inr (.inr (.inl ⟨rfl, .inl ⟨_, S.sub _ _ s⟩⟩)) | cases e
    | _ => cases k <;> cases e
  | @r i hi =>
    unfold tyo at e
    dsimp only at e
    split at e
    · rename_i xs q
      obtain ⟨_, ho, h1, h2⟩ := S.ob i _ q
      cases h2 with
      | l r => cases k <;> first | exact .inl ⟨rfl, _, .of h1⟩ | cases e
    · rename_i xs q
      obtain ⟨_, ho, h1, h2⟩ := S.ob i _ q
      cases h2 with
      | m r => cases k <;> first | exact .inr (.inr (.inl ⟨rfl, .inl ⟨_, h1⟩⟩)) | cases e
    · cases k <;> cases e
  | t _ _ => cases k <;> cases e
  | s h => cases k <;> first | exact .inl ⟨rfl, _, sqL_mono S.sub h⟩ | cases e
section
variable {X : Cx} {W : WX} {o e : Expr} {es : List Expr} {fo : SE} {fa : SA} {name : Str} {apos cpos : Pos} {id T : String} {g : MV} {k : Ty}
theorem mt_of {σ : L2.St} {H : Hp} {Q : VK} (ha : RE X W (sMt k g fo fa) σ H Q) : RE X W fo σ H fun x H1 => tyV X.K k.name x H1 ∧ RA X W fa σ H1 fun xs H2 => RM X.K g x xs H2 Q := by
  obtain ⟨φ, G, Bs, env, st, S, R, p⟩ := ha
  refine ⟨φ, G, Bs, env, st, S, R, p.bind.imp fun v s φ1 G1 H1 g1 p1 lv r => ?_⟩
  split at p1
  · rename_i ht
    refine ⟨tyo_rep g1.sim r ht, φ1, G1, Bs, env, s, g1.sim, g1.env R, p1.bind.imp fun vs s2 φ2 G2 H2 g2 p2 lvs rs => ?_⟩
    exact ⟨φ2, G2, Bs, s2, v, vs, g2.sim, g2.v r, rs, p2.lifted⟩
  · exact p1.elim
theorem je_m (k : Ty) (hk : k.name = T) (pa : PlainAttrs T) (slot : Slot T name id) (hty : typeOf (.builtin id) = pure (.type "method_descriptor")) (hm : JM X id g) (ho : JE X W o fo) (ha : JA X W (e :: es) fa)
    (hbase : attributeBase o name X.env (eval o X.env) = eval o X.env := by rfl)
    (hfew : ((backTo cpos (starEach (e :: es) X.env)).all (fun x => !x.1) && (backToKw cpos (keywordEach [] X.env)).all (fun x => x.1.isSome) && decide ((e :: es).length + ([] : List Keyword).length + (if ([] : List Keyword).isEmpty then 0 else 1) < 30)) = true := by rfl)
    (hline : (apos.endLine == cpos.line) = true := by rfl) (hs : starEach (e :: es) X.env = (false, eval e X.env) :: starEach es X.env := by rfl) (hplain : (backTo cpos (starEach es X.env)).any (·.1) = false := by rfl) : JE X W (.Call (.Attribute o name apos) (e :: es) [] cpos) (sMt k g fo fa) := by
  subst hk
  exact je_w (pe_bm pa slot hty hm ho ha hbase hfew hline hs hplain) fun σ H Q h => mt_of h
theorem je_m0 (k : Ty) (hk : k.name = T) (pa : PlainAttrs T) (slot : Slot T name id) (hty : typeOf (.builtin id) = pure (.type "method_descriptor")) (hm : JM X id g) (ho : JE X W o fo)
    (hbase : attributeBase o name X.env (eval o X.env) = eval o X.env := by rfl) (hline : (apos.endLine == cpos.line) = true := by rfl) : JE X W (.Call (.Attribute o name apos) [] [] cpos) (sMt k g fo aNil) := by
  subst hk
  refine je_w (pe_bm0 pa slot hty hm ho hbase hline) fun σ H Q ⟨φ, G, Bs, env, st, S, R, p⟩ => ?_
  refine ⟨φ, G, Bs, env, st, S, R, p.bind.imp fun v s φ1 G1 H1 g1 p1 lv r => ?_⟩
  split at p1
  · rename_i ht
    have p1 : Post X.K (fun c d H => W c d σ H) Bs φ1 G1 s H1 (lift (g v [] s)) (giveV X.K Q) := p1
    exact ⟨tyo_rep g1.sim r ht, φ1, G1, Bs, s, v, [], g1.sim, r, .nil, p1.lifted⟩
  · exact p1.elim
end
/-- pure, or the object is the def's own -/
def pureV : Va → Bool
  | .d _ => true
  | .s _ => true
  | _ => false
def okW (st : Sto) (i : Nat) (v : Va) : Bool := pureV v || decide (st.base ≤ i)
theorem lt_pure {v : Va} {n : Nat} (h : pureV v = true) : v.lt n = true := by
  cases v <;> first | rfl | cases h
section
variable {K : PySem.W.Frag} {φ : Nat → Addr} {G : Hp} {Bs : List Nat} {st : Sto} {H : Hp}
/-- a list of the store is written anew -/
theorem put_list (S : SimS K φ G Bs st H) {i : Nat} {xs zs : List Va} {vs : List LV} (e : st.obs[i]? = some (some (.l xs))) (r : RepVs K φ st.n G zs vs) (w : (∀ b, Va.ltL b xs = true → Va.ltL b zs = true) ∨ st.base ≤ i) :
    Go K Bs φ G st H φ G (st.put i (.l zs)) (upd H (φ i) (.lst vs)) := by
  refine Go.put S e (.l r) fun b hb lt => ?_
  show zs.all (Va.lt b) = true
  rw [← ltL_all]
  rcases w with w | w
  · have := (S.bs b hb).2 i lt _ e
    exact w b (by rw [ltL_all]; exact this)
  · have := (S.bs b hb).1
    omega
theorem put_dict (S : SimS K φ G Bs st H) {i : Nat} {xs zs : List (Key × Va)} {vs : List (Key × LV)} (e : st.obs[i]? = some (some (.m xs))) (r : RepKV K φ st.n G zs vs) (w : (∀ b, (xs.all fun p => p.2.lt b) = true → (zs.all fun p => p.2.lt b) = true) ∨ st.base ≤ i) :
    Go K Bs φ G st H φ G (st.put i (.m zs)) (upd H (φ i) (.dK vs)) := by
  refine Go.put S e (.m r) fun b hb lt => ?_
  show (zs.all fun p => p.2.lt b) = true
  rcases w with w | w
  · exact w b ((S.bs b hb).2 i lt _ e)
  · have := (S.bs b hb).1
    omega
theorem okW_or {i : Nat} {v : Va} (h : okW st i v = true) : pureV v = true ∨ st.base ≤ i := by
  unfold okW at h
  rcases Bool.or_eq_true _ _ ▸ h with h | h
  · exact .inl h
  · exact .inr (of_decide_eq_true h)
theorem refR {i : Nat} {x : LV} (r : RepV K φ st.n G (.r i) x) : x = .ref (φ i) := by
  cases r; rfl
theorem list_at (S : SimS K φ G Bs st H) {i : Nat} {xs : List Va} (e : st.obs[i]? = some (some (.l xs))) : ∃ vs, H (φ i) = some (.lst vs) ∧ RepVs K φ st.n G xs vs := by
  obtain ⟨_, ho, h1, h2⟩ := S.ob i _ e
  cases h2 with
  | l r => exact ⟨_, h1, r⟩
end
theorem ltL_app {b : Nat} {xs ys : List Va} (h : Va.ltL b xs = true) (h' : Va.ltL b ys = true) : Va.ltL b (xs ++ ys) = true := by
  rw [ltL_all] at *
  rw [List.all_append, h, h']
  rfl
theorem ltL_sub {b : Nat} {xs ys : List Va} (h : Va.ltL b xs = true) (hs : ∀ y ∈ ys, y ∈ xs) : Va.ltL b ys = true := by
  rw [ltL_all] at *
  rw [List.all_eq_true] at *
  exact fun y hy => h y (hs y hy)
def gApp : MV := fun v vs st => match v, vs with
  | .r i, [x] => (match st.obs[i]? with
    | some (some (.l xs)) => if xs.length < sizeLine ∧ okW st i x = true then some (.d .none, st.put i (.l (xs ++ [x]))) else none
    | _ => none)
  | _, _ => none
def gPop : MV := fun v vs st => match v, vs with
  | .r i, [] => (match st.obs[i]? with
    | some (some (.l xs)) => (xs[xs.length - 1]?).map fun y => (y, st.put i (.l xs.dropLast))
    | _ => none)
  | _, _ => none
def gPopAt : MV := fun v vs st => match v, vs with
  | .r i, [.d (.int j)] => (match st.obs[i]? with
    | some (some (.l xs)) => if -(2 ^ 63) ≤ j ∧ j < 2 ^ 63 then (seqIndex? j xs.length).bind fun k => (xs[k]?).map fun y => (y, st.put i (.l (xs.eraseIdx k))) else none
    | _ => none)
  | _, _ => none
def lstV : Va → Sto → Option (List Va)
  | .d (.list ds), _ => some (ds.map .d)
  | .r i, st => match st.obs[i]? with
    | some (some (.l xs)) => some xs
    | _ => none
  | _, _ => none
theorem lstV_rep {K : PySem.W.Frag} {φ : Nat → Addr} {G : Hp} {Bs : List Nat} {st : Sto} {H : Hp} (S : SimS K φ G Bs st H) {v : Va} {x : LV} {xs : List Va} (r : RepV K φ st.n G v x) (e : lstV v st = some xs) : ∃ a ys, x = .ref a ∧ H a = some (.lst ys) ∧ RepVs K φ st.n G xs ys := by
  cases r with
  | d r =>
    cases r with
    | lst s r =>
      cases e
      exact ⟨_, _, rfl, S.sub _ _ s, .of_data r⟩
    | _ => cases e
  | @r i hi =>
    unfold lstV at e
    dsimp only at e
    split at e
    · rename_i ys q
      cases e
      obtain ⟨vs, h1, h2⟩ := list_at S q
      exact ⟨_, vs, rfl, h1, h2⟩
    · cases e
  | _ => cases e
def gExt : MV := fun v vs st => match v, vs with
  | .r i, [y] => (match st.obs[i]? with
    | some (some (.l xs)) => (lstV y st).bind fun zs => if xs.length + zs.length ≤ sizeLine ∧ (zs.all pureV = true ∨ st.base ≤ i) then some (.d .none, st.put i (.l (xs ++ zs))) else none
    | _ => none)
  | _, _ => none
def gIdx : MV := fun v vs st => match vs with
  | [y] => (match peek v st, peek y st with
    | some (.list ds), some d => if SeqAt.shaped (.list ds) = true ∧ SeqAt.shaped d = true then (ds.findIdx? fun z => PyData.eqv z d).map fun j => (.d (.int (j : Nat)), st) else none
    | _, _ => none)
  | _ => none
section
variable {X : Cx}
theorem jm {id : String} {g : MV} (h : ∀ (pins : List (Addr × Obj)) (s : Shared) (σ : L2.St) (H : Hp) (x : LV) (xs : List LV) (v : Value) (us : List Value) (Q : VK) φ G Bs (st : Sto) a as c s', Inv X pins σ H s → RelV x v → Vals xs us →
    SimS X.K φ G Bs st H → RepV X.K φ st.n G a x → RepVs X.K φ st.n G as xs → g a as st = some (c, s') → (∀ φ' G' H', Go X.K Bs φ G st H φ' G' s' H' → ∀ lv, RepV X.K φ' s'.n G' c lv → Q lv H') → wpAny (model X.prog X.w) X.A (call (.builtin id) (v :: us)) (EP X pins σ Q) X.xe s) : JM X id g := by
  intro pins s σ H x xs v us Q I rx rxs ⟨φ, G, Bs, st, a, as, S, ra, ras, p⟩
  obtain ⟨c, s', e, give⟩ := p.at
  exact h pins s σ H x xs v us Q φ G Bs st a as c s' I rx rxs S ra ras e give
theorem jm_app : JM X "list.append" gApp := by
  refine jm fun pins s σ H x xs v us Q φ G Bs st a as c s' I rx rxs S ra ras e give => ?_
  unfold gApp at e
  split at e
  · rename_i i y
    split at e
    · rename_i zs q
      split at e
      · rename_i hz
        cases e
        obtain ⟨y', rfl, ry⟩ := one_rep ras
        have := refR ra
        subst this
        obtain ⟨vs, h1, h2⟩ := list_at S q
        have z := put_list S q (h2.append (.cons ry .nil)) ((okW_or hz.2).imp (fun h b hb => ltL_app hb (by show (y.lt b && true) = true; rw [lt_pure h]; rfl)) id)
        exact mt_append pins s σ H _ _ v us Q I rx rxs ⟨_, vs, y', rfl, rfl, h1, by rw [← h2.length]; exact hz.1, give φ G _ z _ (.d .non)⟩
      · cases e
    · cases e
  · cases e
theorem jm_pop : JM X "list.pop" gPop := by
  refine jm fun pins s σ H x xs v us Q φ G Bs st a as c s' I rx rxs S ra ras e give => ?_
  unfold gPop at e
  split at e
  · rename_i i
    split at e
    · rename_i zs q
      cases hy : zs[zs.length - 1]? with
      | none => rw [hy] at e; cases e
      | some y =>
        rw [hy] at e
        cases e
        cases ras
        have := refR ra
        subst this
        obtain ⟨vs, h1, h2⟩ := list_at S q
        obtain ⟨w, hw, rw'⟩ := h2.get hy
        have dl : RepVs X.K φ st.n G zs.dropLast vs.dropLast := by
          rw [List.dropLast_eq_take, List.dropLast_eq_take, h2.length]
          exact h2.take _
        have z := put_list S q dl (.inl fun b hb => ltL_sub hb fun y hy => List.dropLast_subset _ hy)
        exact mt_pop pins s σ H _ _ v us Q I rx rxs ⟨_, vs, w, rfl, rfl, h1, by rw [← h2.length]; exact hw, give φ G _ z _ (z.v rw')⟩
    · cases e
  · cases e
theorem jm_popAt : JM X "list.pop" gPopAt := by
  refine jm fun pins s σ H x xs v us Q φ G Bs st a as c s' I rx rxs S ra ras e give => ?_
  unfold gPopAt at e
  split at e
  · rename_i i j
    split at e
    · rename_i zs q
      split at e
      · rename_i hj
        cases hk : seqIndex? j zs.length with
        | none => rw [hk] at e; cases e
        | some k =>
          rw [hk, Option.bind_some] at e
          cases hy : zs[k]? with
          | none => rw [hy] at e; cases e
          | some y =>
            rw [hy] at e
            cases e
            obtain ⟨jv, rfl, rj⟩ := one_rep ras
            have := intV rj
            subst this
            have := refR ra
            subst this
            obtain ⟨vs, h1, h2⟩ := list_at S q
            obtain ⟨w, hw, rw'⟩ := h2.get hy
            have z := put_list S q (h2.erase k) (.inl fun b hb => ltL_sub hb fun y hy => List.mem_of_mem_eraseIdx hy)
            exact mt_popAt pins s σ H _ _ v us Q I rx rxs ⟨_, vs, j, k, w, rfl, rfl, h1, hj.1, hj.2, by rw [← h2.length]; exact hk, hw, give φ G _ z _ (z.v rw')⟩
      · cases e
    · cases e
  · cases e
theorem jm_ext : JM X "list.extend" gExt := by
  refine jm fun pins s σ H x xs v us Q φ G Bs st a as c s' I rx rxs S ra ras e give => ?_
  unfold gExt at e
  split at e
  · rename_i i y
    split at e
    · rename_i zs q
      cases hl : lstV y st with
      | none => rw [hl] at e; cases e
      | some ws =>
        rw [hl, Option.bind_some] at e
        split at e
        · rename_i hz
          cases e
          obtain ⟨y', rfl, ry⟩ := one_rep ras
          have := refR ra
          subst this
          obtain ⟨vs, h1, h2⟩ := list_at S q
          obtain ⟨b, us', rfl, h3, h4⟩ := lstV_rep S ry hl
          have z := put_list S q (h2.append h4) (hz.2.imp (fun h b hb => ltL_app hb (by rw [ltL_all, List.all_eq_true]; exact fun y hy => lt_pure (List.all_eq_true.mp h y hy))) id)
          exact mt_extend pins s σ H _ _ v us Q I rx rxs ⟨_, b, vs, us', rfl, rfl, h1, h3, by rw [← h2.length, ← h4.length]; exact hz.1, give φ G _ z _ (.d .non)⟩
        · cases e
    · cases e
  · cases e
theorem jm_idx (F : Fit X) : JM X "list.index" gIdx := by
  refine jm fun pins s σ H x xs v us Q φ G Bs st a as c s' I rx rxs S ra ras e give => ?_
  unfold gIdx at e
  split at e
  · rename_i y
    split at e
    · rename_i ds d e1 e2
      split at e
      · rename_i hs
        cases hj : ds.findIdx? fun z => PyData.eqv z d with
        | none => rw [hj] at e; cases e
        | some j =>
          rw [hj] at e
          cases e
          obtain ⟨y', rfl, ry⟩ := one_rep ras
          have dl := peek_dp S ra e1 (SeqAt.canLay_of_shaped hs.1)
          have dy := peek_dp S ry e2 (SeqAt.canLay_of_shaped hs.2)
          rw [List.findIdx?_eq_some_iff_getElem] at hj
          obtain ⟨hlt, h1, h2⟩ := hj
          have hu : X.A.units + 65 < cLine := by have := F.un; omega
          obtain ⟨p, rfl⟩ : ∃ p, x = V.ref p := by cases dl <;> exact ⟨_, rfl⟩
          refine mt_indexD hu pins s σ H _ _ v us Q I rx rxs ⟨p, y', d, ds, j, ds[j], rfl, rfl, dl, dy, hs.1, hs.2, List.getElem?_eq_getElem hlt, h1, fun m z hm hz => ?_, give φ G H (Go.here S) _ (.d (.int _))⟩
          obtain ⟨hm', rfl⟩ := List.getElem?_eq_some_iff.mp hz
          exact Bool.eq_false_iff.mpr (h2 m hm)
      · cases e
    · cases e
  · cases e
end

/-! ### o[i] = v -/
abbrev SSet := Va → Va → Va → Sto → Option Sto
def RSet (K : PySem.W.Frag) (g : SSet) : TSet := fun o i v H Q => ∃ φ G Bs st a b c s', SimS K φ G Bs st H ∧ RepV K φ st.n G a o ∧ RepV K φ st.n G b i ∧ RepV K φ st.n G c v ∧ g a b c st = some s' ∧ ∀ φ' G' H', Go K Bs φ G st H φ' G' s' H' → Q H'
def JSet (X : Cx) (g : SSet) : Prop := PSet X (RSet X.K g)
def xPut (g : SSet) (f o i : SE) : SS := fun env st => toS (f env st) env fun v s => toS (o env s) env fun a s => toS (i env s) env fun b s => match g a b v s with
  | some s' => .ok (.nx env) s'
  | none => .bad
def wLst : SSet := fun o i v st => match o, i with
  | .r n, .d (.int k) => (match st.obs[n]? with
    | some (some (.l xs)) => (ixN xs.length k).bind fun j => if okW st n v = true then some (st.put n (.l (xs.set j v))) else none
    | _ => none)
  | _, _ => none
section
variable {X : Cx} {W : WX} {e o i : Expr} {f fo fi : SE} {g : SSet} {pos tpos : Pos}
theorem js_put (hg : JSet X g) (he : JE X W e f) (ho : JE X W o fo) (hi : JE X W i fi) (hs : swapsWithSole [.Subscript o i tpos] e pos.line X.env = pure false := by rfl) (hw : swappedStores [.Subscript o i tpos] e X.env = pure none := by rfl)
    (h1 : (assignEach [.Subscript o i tpos] X.env).map (·.2) = [assign (.Subscript o i tpos) X.env] := by rfl)
    (ha : ∀ v, assign (.Subscript o i tpos) X.env v = (do
      let ov ← holding [v] (eval o X.env)
      let iv ← holding [v, ov] (eval i X.env)
      standAt tpos
      holding [v, ov, iv] (setItem ov iv v)
      release [v, ov, iv] []) := by intro _; rfl) : JS X W (.Assign [.Subscript o i tpos] e pos) (xPut g f fo fi) := by
  refine js_w (ps_asg he (pg_sub ho hi hg ha) hs hw h1) fun D σ H ⟨φ, G, Bs, env, st, S, R, p⟩ => ?_
  refine ⟨φ, G, Bs, env, st, S, R, (p.toS R).imp fun v s φ1 G1 H1 g1 p1 lv r => ?_⟩
  refine ⟨φ1, G1, Bs, env, s, g1.sim, g1.env R, (p1.toS (g1.env R)).imp fun a s2 φ2 G2 H2 g2 p2 lo ro => ?_⟩
  refine ⟨φ2, G2, Bs, env, s2, g2.sim, g2.env (g1.env R), (p2.toS (g2.env (g1.env R))).imp fun b s3 φ3 G3 H3 g3 p3 li ri => ?_⟩
  split at p3
  · rename_i s4 eg
    exact ⟨φ3, G3, Bs, s3, a, b, v, s4, g3.sim, g3.v ro, ri, g3.v (g2.v r), eg, fun φ4 G4 H4 g4 => p3 φ4 G4 H4 g4 σ (g4.env (g3.env (g2.env (g1.env R))))⟩
  · exact p3.elim
theorem jset_lst : JSet X wLst := by
  rintro pins s σ H o i v ov iv u Q I ro ri rv ⟨φ, G, Bs, st, a, b, c, s', S, ra, rb, rc, e, give⟩
  unfold wLst at e
  split at e
  · rename_i n k
    split at e
    · rename_i xs q
      cases hj : ixN xs.length k with
      | none => rw [hj] at e; cases e
      | some j =>
        rw [hj, Option.bind_some] at e
        split at e
        · rename_i hz
          cases e
          have := refR ra
          subst this
          have := intV rb
          subst this
          obtain ⟨vs, h1, h2⟩ := list_at S q
          have z := put_list S q (h2.set rc j) ((okW_or hz).imp (fun h b hb => by
            rw [ltL_all, List.all_eq_true] at *
            exact fun y hy => (List.mem_or_eq_of_mem_set hy).elim (fun h' => hb y h') (fun h' => h' ▸ lt_pure h)) id)
          exact set_list pins s σ H _ _ _ ov iv u Q I ro ri rv ⟨_, vs, k, j, rfl, rfl, h1, by rw [← h2.length]; exact hj, give φ G _ z⟩
        · cases e
    · cases e
  · cases e
end

/-! ### keyword calls -/
def pick {α : Type} (pm : List Nat) (xs : List α) : List α := pm.filterMap fun i => xs[i]?
theorem pick_reps {K : PySem.W.Frag} {φ : Nat → Addr} {n : Nat} {G : Hp} {as : List Va} {vs : List LV} (r : RepVs K φ n G as vs) : ∀ pm, RepVs K φ n G (pick pm as) (pick pm vs)
  | [] => .nil
  | i :: pm => by
    unfold pick
    rw [List.filterMap_cons, List.filterMap_cons]
    cases e : as[i]? with
    | none =>
      rw [show vs[i]? = none from List.getElem?_eq_none (by rw [← r.length]; exact List.getElem?_eq_none_iff.mp e)]
      exact pick_reps r pm
    | some a =>
      obtain ⟨v, h1, h2⟩ := r.get e
      rw [h1]
      exact .cons h2 (pick_reps r pm)
theorem pick_vals {vs : List LV} {us : List Value} (r : Vals vs us) : ∀ pm, Vals (pick pm vs) (pick pm us)
  | [] => .nil
  | i :: pm => by
    unfold pick
    rw [List.filterMap_cons, List.filterMap_cons]
    cases e : vs[i]? with
    | none =>
      rw [show us[i]? = none from List.getElem?_eq_none (by rw [← r.length]; exact List.getElem?_eq_none_iff.mp e)]
      exact pick_vals r pm
    | some a =>
      obtain ⟨v, h1, h2⟩ := r.get e
      rw [h1]
      exact .cons h2 (pick_vals r pm)
/-- positional values, then keywords ks, bind as pm tells -/
def BindK (x : Str) (st : Stmt) (ps : List Str) (nu : Nat) (ks : List Str) (pm : List Nat) : Prop := ∀ (kV doc pv : Value) (an : Option Addr) (cdv ct : Value) (us ws : List Value), us.length = nu → ws.length = ks.length →
  bindArgs (PySem.W.fnOf x x (defArgs st) (defBody st) (defScope st) .none kV doc pv an cdv ct) ⟨us, ks.zip ws⟩ = pure (ps.zip (pick pm (us ++ ws)))
def sFK (F : FS) (nu nk : Nat) (pm : List Nat) (a k : SA) : SE := fun env st => (a env st).bind fun vs s => (k env s).bind fun ws s => if vs.length = nu ∧ ws.length = nk then F (pick pm (vs ++ ws)) s else .bad
def JK (X : Cx) (W : WX) (kws : List Keyword) (f : SA) : Prop := PK X kws (RA X W f)
section
variable {X : Cx} {W : WX} {k : Nat} {x : Str} {ps ks : List Str} {st : Stmt} {F : FS} {e : Expr} {es : List Expr} {fe : SE} {fa fk : SA} {p pos kpos : Pos} {pm : List Nat} {nu nk : Nat} {kws : List Keyword} {nm : Option Str}
theorem jk_nil : JK X W [] aNil := ⟨fun pos pins s σ H Q I ⟨φ, G, Bs, env, st, S, R, p⟩ => pk_nil.run pos pins s σ H Q I (p φ G H (Go.here S) [] .nil)⟩
theorem jk_cons (he : JE X W e fe) (hr : JK X W kws fk) : JK X W (⟨nm, e, kpos⟩ :: kws) (aCons fe fk) := by
  refine ⟨fun pos pins s σ H Q I ⟨φ, G, Bs, env, st, S, R, p⟩ => (pk_cons he hr).run pos pins s σ H Q I ?_⟩
  refine ⟨φ, G, Bs, env, st, S, R, p.bind.imp fun v s φ1 G1 H1 g1 p1 lv r => ?_⟩
  refine ⟨φ1, G1, Bs, env, s, g1.sim, g1.env R, p1.bind.imp fun vs s2 φ2 G2 H2 g2 p2 lvs rs => ?_⟩
  exact p2 φ2 G2 H2 (Go.here g2.sim) _ (.cons (g2.v r) rs)
theorem binds_k {P : Program} {w : World} {K : PySem.W.Frag} {mg : Str → Option Value} {base : Heap} {f : Addr} {fd : FuncData} (Fn : Fun K x x st f fd) (hb : BindK x st ps nu ks pm) (s : Shared) (us ws : List Value) (hu : us.length = nu) (hw : ws.length = ks.length) : BindsTo s fd ⟨us, ks.zip ws⟩ (ps.zip (pick pm (us ++ ws))) := by
  obtain ⟨oc, od, kV, doc, pv, an, cdv, ct, osl, rfl, lk, hcd⟩ := Fn.ex
  exact .of_eq (hb kV doc pv an cdv ct us ws hu hw)
theorem je_fk (B : Bd X W k) (T : FnT X.prog X.w X.K X.mg X.base k x ps st F) (hb : BindK x st ps nu ks pm) (hg : Gl X x) (ha : JA X W (e :: es) fa) (hkw : JK X W kws fk) (hall : (backToKw pos (keywordEach kws X.env)).all (·.1.isSome) = true := by rfl)
    (hks : (backToKw pos (keywordEach kws X.env)).filterMap (·.1) = ks := by rfl) (hdb : (x == ("__debug__" : Str)) = false := by decide) (he : starEach (e :: es) X.env = (false, eval e X.env) :: starEach es X.env := by rfl)
    (hpl : ((backTo pos (starEach (e :: es) X.env)).any (·.1) || (backToKw pos (keywordEach kws X.env)).any (·.1.isNone)) = false := by rfl) : JE X W (.Call (.Name x p) (e :: es) kws pos) (sFK F nu ks.length pm fa fk) := by
  have no := T.no
  obtain ⟨f, fd, Fn, hm, T⟩ := T.ex
  refine ⟨fun pins s σ H Q I ⟨φ, G, Bs, env, sto, S, R, q⟩ => ?_⟩
  refine wpAny_Call_Name_kw (ld_glob I hg hm ?_ hdb)
  refine PySem.W.callWith_KW (h₀ := X.base) I.ok.mod.kin Fn.kp hall (thn (ha.run pos pins s σ H (fun vs H1 => ∃ φ1 G1 s1 as, SimS X.K φ1 G1 Bs s1 H1 ∧ EnvR X.K φ1 s1.n G1 env σ ∧ RepVs X.K φ1 s1.n G1 as vs ∧ Post X.K (fun c d H => W c d σ H) Bs φ1 G1 s1 H1
    ((fk env s1).bind fun ws s => if as.length = nu ∧ ws.length = ks.length then F (pick pm (as ++ ws)) s else .bad) (giveV X.K Q)) I
    ⟨φ, G, Bs, env, sto, S, R, q.bind.imp fun as s1 φ1 G1 H1 g p1 lvs r => ⟨φ1, G1, s1, as, g.sim, g.env R, r, p1⟩⟩) fun us s1 ⟨vs, H1, I1, r, φ1, G1, st1, as, S1, R1, r1, p1⟩ => ?_) hpl he
  refine thn (hkw.run pos pins s1 σ H1 (fun zs H2 => ∃ φ2 G2 s2 bs, SimS X.K φ2 G2 Bs s2 H2 ∧ RepVs X.K φ2 s2.n G2 as vs ∧ RepVs X.K φ2 s2.n G2 bs zs ∧ Post X.K (fun c d H => W c d σ H) Bs φ2 G2 s2 H2 (if as.length = nu ∧ bs.length = ks.length then F (pick pm (as ++ bs)) s2 else .bad) (giveV X.K Q)) I1
    ⟨φ1, G1, Bs, env, st1, S1, R1, p1.bind.imp fun bs s2 φ2 G2 H2 g p2 lzs rz => ⟨φ2, G2, s2, bs, g.sim, g.vs r1, rz, p2⟩⟩) fun ws s2 ⟨zs, H2, I2, rz, φ2, G2, st2, bs, S2, r2, rb, p2⟩ => ⟨I2.kIn, ?_⟩
  rw [hks]
  split at p2
  · rename_i hl
    have hbt := binds_k (P := X.prog) (w := X.w) (mg := X.mg) (base := X.base) Fn hb s2 us ws (by rw [← r.length, ← r2.length]; exact hl.1) (by rw [← rz.length, ← rb.length]; exact hl.2)
    have pr := pick_reps (r2.append rb) pm
    by_cases hlen : (pick pm (as ++ bs)).length = ps.length
    · exact run_g T B I2 hbt (pick_vals (r.append rz) pm) (by rw [← pr.length]; exact hlen) S2 pr p2
    · rw [no _ st2 hlen] at p2
      exact p2.elim
  · exact p2.elim
theorem je_fk0 (B : Bd X W k) (T : FnT X.prog X.w X.K X.mg X.base k x ps st F) (hb : BindK x st ps 0 ks pm) (hg : Gl X x) (hkw : JK X W kws fk) (hall : (backToKw pos (keywordEach kws X.env)).all (·.1.isSome) = true := by rfl)
    (hks : (backToKw pos (keywordEach kws X.env)).filterMap (·.1) = ks := by rfl) (hdb : (x == ("__debug__" : Str)) = false := by decide)
    (hpl : ((backTo pos (starEach [] X.env)).any (·.1) || (backToKw pos (keywordEach kws X.env)).any (·.1.isNone)) = false := by rfl) : JE X W (.Call (.Name x p) [] kws pos) (sFK F 0 ks.length pm aNil fk) := by
  have no := T.no
  obtain ⟨f, fd, Fn, hm, T⟩ := T.ex
  refine ⟨fun pins s σ H Q I ⟨φ, G, Bs, env, sto, S, R, q⟩ => ?_⟩
  refine wpAny_Call_Name_kw (ld_glob I hg hm ?_ hdb)
  have q : Post X.K (fun c d H => W c d σ H) Bs φ G sto H ((fk env sto).bind fun ws s => if ([] : List Va).length = 0 ∧ ws.length = ks.length then F (pick pm ([] ++ ws)) s else .bad) (giveV X.K Q) := q
  refine PySem.W.callWith_KW0 (h₀ := X.base) I.ok.mod.kin Fn.kp hall (thn (hkw.run pos pins s σ H (fun zs H2 => ∃ φ2 G2 s2 bs, SimS X.K φ2 G2 Bs s2 H2 ∧ RepVs X.K φ2 s2.n G2 bs zs ∧ Post X.K (fun c d H => W c d σ H) Bs φ2 G2 s2 H2 (if ([] : List Va).length = 0 ∧ bs.length = ks.length then F (pick pm ([] ++ bs)) s2 else .bad) (giveV X.K Q)) I
    ⟨φ, G, Bs, env, sto, S, R, q.bind.imp fun bs s2 φ2 G2 H2 g p2 lzs rz => ⟨φ2, G2, s2, bs, g.sim, rz, p2⟩⟩) fun ws s2 ⟨zs, H2, I2, rz, φ2, G2, st2, bs, S2, rb, p2⟩ => ⟨I2.kIn, ?_⟩) hpl
  rw [hks]
  split at p2
  · rename_i hl
    have hbt := binds_k (P := X.prog) (w := X.w) (mg := X.mg) (base := X.base) Fn hb s2 [] ws rfl (by rw [← rz.length, ← rb.length]; exact hl.2)
    have pr := pick_reps rb pm
    by_cases hlen : (pick pm ([] ++ bs)).length = ps.length
    · exact run_g T B I2 hbt (pick_vals rz pm) (by rw [← pr.length]; exact hlen) S2 pr p2
    · rw [no _ st2 hlen] at p2
      exact p2.elim
  · exact p2.elim
end
end Vi

set_option maxHeartbeats 1000000
/-! Vi9: constants of the module (tuples, dicts), isinstance. -/
namespace Vi
open PySem PySem.Spec PyProof.Rows L2

/-! ### a constant's value, from the written part -/
mutual
/-- the data that stands at a value of the written part -/
def cstB (K : PySem.W.Frag) : PD → Value → Bool
  | .none, .none => true
  | .bool b, .bool c => b == c
  | .int i, .int j _ => decide (i = j)
  | .str x, .str y _ => decide (x = y)
  | .tuple ds, .ref a => (match K.lookup a with
    | some ⟨.type c, _, .seq its _, _⟩ => decide (c = "tuple") && (decide (its.size ≤ sizeLine) && cstL K ds its.toList)
    | _ => false)
  | _, _ => false
def cstL (K : PySem.W.Frag) : List PD → List Value → Bool
  | [], [] => true
  | d :: ds, u :: us => cstB K d u && cstL K ds us
  | _, _ => false
end
mutual
theorem cstB_ok {K : PySem.W.Frag} : ∀ {d : PD} {u : Value}, cstB K d u = true → ∃ lv, RelV lv u ∧ ∀ G, RepD K G d lv
  | .none, u, h => by
    cases u <;> first | exact ⟨.non, rfl, fun _ => .non⟩ | exact absurd h (by simp [cstB])
  | .bool b, u, h => by
    cases u with
    | bool c =>
      have e : b = c := eq_of_beq (show (b == c) = true by simpa only [cstB] using h)
      subst e
      exact ⟨.bl b, rfl, fun _ => .bl b⟩
    | _ => exact absurd h (by simp [cstB])
  | .int i, u, h => by
    cases u with
    | int j t =>
      have e : i = j := of_decide_eq_true (show decide (i = j) = true by simpa only [cstB] using h)
      subst e
      exact ⟨.int i, ⟨t, rfl⟩, fun _ => .int i⟩
    | _ => exact absurd h (by simp [cstB])
  | .str x, u, h => by
    cases u with
    | str y t =>
      have e : x = y := of_decide_eq_true (show decide (x = y) = true by simpa only [cstB] using h)
      subst e
      exact ⟨.str x, ⟨t, rfl⟩, fun _ => .str x⟩
    | _ => exact absurd h (by simp [cstB])
  | .tuple ds, u, h => by
    cases u with
    | ref a =>
      unfold cstB at h
      split at h
      · rename_i c dd its n sl q
        obtain ⟨h1, h2⟩ := Bool.and_eq_true_iff.mp h
        obtain ⟨h3, h4⟩ := Bool.and_eq_true_iff.mp h2
        obtain ⟨lvs, r1, r2⟩ := cstL_ok h4
        have e : c = "tuple" := of_decide_eq_true h1
        subst e
        exact ⟨.ref a, rfl, fun G => .tup (.inr ⟨_, its, n, q, rfl, rfl, of_decide_eq_true h3, r1⟩) (r2 G)⟩
      · cases h
    | _ => exact absurd h (by simp [cstB])
  | .list _, _, h => absurd h (by simp [cstB])
  | .dict _, _, h => absurd h (by simp [cstB])
theorem cstL_ok {K : PySem.W.Frag} : ∀ {ds : List PD} {us : List Value}, cstL K ds us = true → ∃ lvs, Vals lvs us ∧ ∀ G, RepDs K G ds lvs
  | [], [], _ => ⟨[], .nil, fun _ => .nil⟩
  | [], _ :: _, h => absurd h (by simp [cstL])
  | _ :: _, [], h => absurd h (by simp [cstL])
  | d :: ds, u :: us, h => by
    obtain ⟨h1, h2⟩ := Bool.and_eq_true_iff.mp (show (cstB K d u && cstL K ds us) = true by simpa only [cstL] using h)
    obtain ⟨lv, r1, r2⟩ := cstB_ok h1
    obtain ⟨lvs, s1, s2⟩ := cstL_ok h2
    exact ⟨lv :: lvs, .cons r1 s1, fun G => .cons (r2 G) (s2 G)⟩
end
/-- the module's x is d -/
structure Cst (K : PySem.W.Frag) (mg : Str → Option Value) (x : Str) (d : PD) : Prop where
  ex : ∃ u lv, mg x = some u ∧ RelV lv u ∧ ∀ G, RepD K G d lv
def cst1 (K : PySem.W.Frag) (x : Str) (d : PD) : Bool := match PySem.W.nsIn K mainGlobals x with
  | some (some u) => cstB K d u
  | _ => false
theorem cst1_ok {K : PySem.W.Frag} {h : Heap} {mg : Str → Option Value} {x : Str} {d : PD} (X : K.In h) (G : h.Ns mainGlobals mg) (c : cst1 K x d = true) : Cst K mg x d := by
  unfold cst1 at c
  split at c
  · rename_i u q
    obtain ⟨lv, r1, r2⟩ := cstB_ok c
    exact ⟨u, lv, PySem.W.mg_of X G q, r1, r2⟩
  · cases c
section
variable {X : Cx} {W : WX} {pos : Pos}
theorem je_cst {x : Str} {d : PD} (c : Cst X.K X.mg x d) (hg : Gl X x) (hd : (x == ("__debug__" : Str)) = false := by decide) : JE X W (.Name x pos) (sK d) := by
  obtain ⟨u, lv, hm, r, q⟩ := c.ex
  exact je_g hg hm r q hd
end

/-! ### dicts of the module -/
def pdB : PD → Value → Bool
  | .int i, .int j _ => decide (i = j)
  | .str x, .str y _ => decide (x = y)
  | _, _ => false
theorem pdB_ok {K : PySem.W.Frag} {d : PD} {u : Value} (h : pdB d u = true) : ∃ lv, RelV lv u ∧ ∀ G, RepD K G d lv := by
  unfold pdB at h
  split at h
  · rename_i i j t
    have e : i = j := of_decide_eq_true h
    subst e
    exact ⟨.int i, ⟨t, rfl⟩, fun _ => .int i⟩
  · rename_i i j t
    have e : i = j := of_decide_eq_true h
    subst e
    exact ⟨.str i, ⟨t, rfl⟩, fun _ => .str i⟩
  · cases h
def entB : List DictEntry → List (Str × PD) → Bool
  | [], [] => true
  | e :: r, (z, d) :: s => (match e.key with
    | .str y _ => decide (y = z)
    | _ => false) && (pdB d e.val && entB r s)
  | _, _ => false
theorem entB_find : ∀ {es : List DictEntry} {kvs : List (Str × PD)}, entB es kvs = true → ∀ z, match kvs.find? fun p => p.1 == z with
    | some p => ∃ e, es.find? (·.key.isStr z) = some e ∧ pdB p.2 e.val = true
    | none => es.find? (·.key.isStr z) = none
  | [], [], _, z => rfl
  | [], _ :: _, h, _ => absurd h (by simp [entB])
  | _ :: _, [], h, _ => absurd h (by simp [entB])
  | e :: r, (y, d) :: s, h, z => by
    unfold entB at h
    obtain ⟨h1, h2⟩ := Bool.and_eq_true_iff.mp h
    obtain ⟨h3, h4⟩ := Bool.and_eq_true_iff.mp h2
    have ih := entB_find h4 z
    split at h1
    · rename_i y' t q
      have e1 : y' = y := of_decide_eq_true h1
      subst e1
      have e2 : e.key.isStr z = (y' == z) := by rw [q]; rfl
      rw [List.find?_cons, List.find?_cons]
      dsimp only
      rw [e2]
      cases (y' == z) with
      | true => exact ⟨e, rfl, h3⟩
      | false => exact ih
    · cases h1
theorem entB_ref : ∀ {es : List DictEntry} {kvs : List (Str × PD)}, entB es kvs = true → es.any (·.refKey) = false
  | [], [], _ => rfl
  | [], _ :: _, h => absurd h (by simp [entB])
  | _ :: _, [], h => absurd h (by simp [entB])
  | e :: r, (y, d) :: s, h => by
    unfold entB at h
    obtain ⟨h1, h2⟩ := Bool.and_eq_true_iff.mp h
    obtain ⟨h3, h4⟩ := Bool.and_eq_true_iff.mp h2
    split at h1
    · rename_i y' t q
      rw [List.any_cons, entB_ref h4, Bool.or_false]
      unfold DictEntry.refKey
      rw [q]
    · cases h1
/-- a dict of the module with text keys -/
structure KTab (K : PySem.W.Frag) (w : World) (a : Addr) (kvs : List (Str × PD)) : Prop where
  ex : ∃ es n, KDict K w a es n ∧ entB es.toList kvs = true
def tabEs (K : PySem.W.Frag) (a : Addr) : List DictEntry := match K.lookup a with
  | some ⟨_, _, .dict es _, _⟩ => es.toList
  | _ => []
theorem KTab.of {K : PySem.W.Frag} {w : World} {a : Addr} {kvs : List (Str × PD)} (h : ∃ es n, KDict K w a es n) (b : entB (tabEs K a) kvs = true) : KTab K w a kvs := by
  obtain ⟨es, n, D⟩ := h
  refine ⟨es, n, D, ?_⟩
  unfold tabEs at b
  rw [D.at_] at b
  exact b
theorem KTab.get {K : PySem.W.Frag} {w : World} {a : Addr} {kvs : List (Str × PD)} (T : KTab K w a kvs) : ∃ es n, KDict K w a es n ∧ ∀ z, match kvs.find? fun p => p.1 == z with
    | some p => ∃ u, PySem.W.nsIn K a z = some (some u) ∧ pdB p.2 u = true
    | none => PySem.W.nsIn K a z = some none := by
  obtain ⟨es, n, D, b⟩ := T.ex
  refine ⟨es, n, D, fun z => ?_⟩
  have h := entB_find b z
  unfold PySem.W.nsIn
  rw [D.at_]
  dsimp only
  cases q : kvs.find? fun p => p.1 == z with
  | some p =>
    rw [q] at h
    obtain ⟨e, h1, h2⟩ := h
    exact ⟨e.val, by rw [h1], h2⟩
  | none =>
    rw [q] at h
    show (match es.toList.find? (·.key.isStr z) with
      | some e => some (some e.val)
      | none => if es.toList.any (·.refKey) then none else some none) = some none
    have h : es.toList.find? (·.key.isStr z) = none := h
    rw [h, entB_ref b]
    rfl
def entI : List DictEntry → List (Int × PD) → Bool
  | [], [] => true
  | e :: r, (z, d) :: s => (match e.key with
    | .int y _ => decide (y = z)
    | _ => false) && (decide (e.hash = hashInt z) && (pdB d e.val && entI r s))
  | _, _ => false
theorem entI_find : ∀ {es : List DictEntry} {kvs : List (Int × PD)}, entI es kvs = true → ∀ z, match kvs.find? fun p => p.1 == z with
    | some p => ∃ e, es.find? (fun d => Value.isInt z d.key) = some e ∧ pdB p.2 e.val = true
    | none => es.find? (fun d => Value.isInt z d.key) = none
  | [], [], _, z => rfl
  | [], _ :: _, h, _ => absurd h (by simp [entI])
  | _ :: _, [], h, _ => absurd h (by simp [entI])
  | e :: r, (y, d) :: s, h, z => by
    unfold entI at h
    obtain ⟨h1, h2⟩ := Bool.and_eq_true_iff.mp h
    obtain ⟨h5, h2⟩ := Bool.and_eq_true_iff.mp h2
    obtain ⟨h3, h4⟩ := Bool.and_eq_true_iff.mp h2
    have ih := entI_find h4 z
    split at h1
    · rename_i y' t q
      have e1 : y' = y := of_decide_eq_true h1
      subst e1
      have e2 : Value.isInt z e.key = (y' == z) := by
        rw [q]
        simp [Value.isInt]
      rw [List.find?_cons, List.find?_cons]
      dsimp only
      rw [e2]
      cases (y' == z) with
      | true => exact ⟨e, rfl, h3⟩
      | false => exact ih
    · cases h1
theorem entI_keys {P : Program} {w : World} : ∀ {es : List DictEntry} {kvs : List (Int × PD)}, entI es kvs = true → ∀ e ∈ es, ∃ k, (intKind P w).is k e.key = true ∧ e.hash = (intKind P w).hash k
  | [], [], _, e, he => by cases he
  | [], _ :: _, h, _, _ => absurd h (by simp [entI])
  | _ :: _, [], h, _, _ => absurd h (by simp [entI])
  | e :: r, (y, d) :: s, h, e', he => by
    unfold entI at h
    obtain ⟨h1, h2⟩ := Bool.and_eq_true_iff.mp h
    obtain ⟨h5, h2⟩ := Bool.and_eq_true_iff.mp h2
    obtain ⟨h3, h4⟩ := Bool.and_eq_true_iff.mp h2
    cases he with
    | tail _ hm => exact entI_keys h4 e' hm
    | head =>
      split at h1
      · rename_i y' t q
        have e1 : y' = y := of_decide_eq_true h1
        subst e1
        exact ⟨y', by rw [q]; exact intKind_is P w y' t, of_decide_eq_true h5⟩
      · cases h1
structure KTabI (K : PySem.W.Frag) (a : Addr) (kvs : List (Int × PD)) : Prop where
  ex : ∃ es n, K.lookup a = some ⟨.type "dict", none, .dict es n, #[]⟩ ∧ entI es.toList kvs = true
def tabIB (K : PySem.W.Frag) (a : Addr) (kvs : List (Int × PD)) : Bool := match K.lookup a with
  | some ⟨.type c, none, .dict es _, sl⟩ => decide (c = "dict") && (sl.isEmpty && entI es.toList kvs)
  | _ => false
theorem KTabI.of {K : PySem.W.Frag} {a : Addr} {kvs : List (Int × PD)} (h : tabIB K a kvs = true) : KTabI K a kvs := by
  unfold tabIB at h
  split at h
  · rename_i c es n sl q
    obtain ⟨h1, h2⟩ := Bool.and_eq_true_iff.mp h
    obtain ⟨h3, h4⟩ := Bool.and_eq_true_iff.mp h2
    have e1 : c = "dict" := of_decide_eq_true h1
    have e2 : sl = #[] := Array.isEmpty_iff.mp h3
    subst e1 e2
    exact ⟨es, n, q, h4⟩
  · cases h
theorem find_arr {α : Type} (p : α → Bool) (a : Array α) : a.find? p = a.toList.find? p := by
  obtain ⟨l⟩ := a
  simp
/-- a dict of the module by its name -/
structure TabN (K : PySem.W.Frag) (w : World) (mg : Str → Option Value) (x : Str) (kvs : List (Str × PD)) : Prop where
  ex : ∃ a, mg x = some (.ref a) ∧ KTab K w a kvs
structure TabNI (K : PySem.W.Frag) (mg : Str → Option Value) (x : Str) (kvs : List (Int × PD)) : Prop where
  ex : ∃ a, mg x = some (.ref a) ∧ KTabI K a kvs
def sKin (kvs : List (Str × PD)) (f : SE) : SE := fun env st => (f env st).bind fun v s => match v with
  | .d (.str z) => .ok (.d (.bool (kvs.find? fun p => p.1 == z).isSome)) s
  | _ => .bad
def sKnin (kvs : List (Str × PD)) (f : SE) : SE := fun env st => (f env st).bind fun v s => match v with
  | .d (.str z) => .ok (.d (.bool (!(kvs.find? fun p => p.1 == z).isSome))) s
  | _ => .bad
def sKget (kvs : List (Str × PD)) (f : SE) : SE := fun env st => (f env st).bind fun v s => match v with
  | .d (.str z) => (match kvs.find? fun p => p.1 == z with
    | some p => .ok (.d p.2) s
    | none => .bad)
  | _ => .bad
def sKgetI (kvs : List (Int × PD)) (f : SE) : SE := fun env st => (f env st).bind fun v s => match v with
  | .d (.int z) => (match kvs.find? fun p => p.1 == z with
    | some p => .ok (.d p.2) s
    | none => .bad)
  | _ => .bad
section
variable {X : Cx} {W : WX} {pos dpos : Pos} {a : Expr} {fa : SE} {x : Str} {kvs : List (Str × PD)} {kvi : List (Int × PD)}
theorem kin_of {σ : L2.St} {H : Hp} {Q : VK} {d : Addr} (T : KTab X.K X.w d kvs) (h : RE X W (sKin kvs fa) σ H Q) : RE X W fa σ H fun y H1 => ∃ (z : Str) (r : Option Value), y = .str z ∧ PySem.W.nsIn X.K d z = some r ∧ Q (.bl r.isSome) H1 := by
  obtain ⟨es, n, D, g⟩ := T.get
  obtain ⟨φ, G, Bs, env, st, S, R, p⟩ := h
  refine ⟨φ, G, Bs, env, st, S, R, p.bind.imp fun v s φ1 G1 H1 g1 p1 lv r => ?_⟩
  split at p1
  · rename_i z
    have e := strV r
    subst e
    have gz := g z
    cases q : kvs.find? fun p => p.1 == z with
    | some k =>
      rw [q] at gz p1
      obtain ⟨u, h1, h2⟩ := gz
      exact ⟨z, some u, rfl, h1, p1 φ1 G1 H1 (Go.here g1.sim) _ (.d (.bl _))⟩
    | none =>
      rw [q] at gz p1
      exact ⟨z, none, rfl, gz, p1 φ1 G1 H1 (Go.here g1.sim) _ (.d (.bl _))⟩
  · exact p1.elim
theorem knin_of {σ : L2.St} {H : Hp} {Q : VK} {d : Addr} (T : KTab X.K X.w d kvs) (h : RE X W (sKnin kvs fa) σ H Q) : RE X W fa σ H fun y H1 => ∃ (z : Str) (r : Option Value), y = .str z ∧ PySem.W.nsIn X.K d z = some r ∧ Q (.bl (!r.isSome)) H1 := by
  obtain ⟨es, n, D, g⟩ := T.get
  obtain ⟨φ, G, Bs, env, st, S, R, p⟩ := h
  refine ⟨φ, G, Bs, env, st, S, R, p.bind.imp fun v s φ1 G1 H1 g1 p1 lv r => ?_⟩
  split at p1
  · rename_i z
    have e := strV r
    subst e
    have gz := g z
    cases q : kvs.find? fun p => p.1 == z with
    | some k =>
      rw [q] at gz p1
      obtain ⟨u, h1, h2⟩ := gz
      exact ⟨z, some u, rfl, h1, p1 φ1 G1 H1 (Go.here g1.sim) _ (.d (.bl _))⟩
    | none =>
      rw [q] at gz p1
      exact ⟨z, none, rfl, gz, p1 φ1 G1 H1 (Go.here g1.sim) _ (.d (.bl _))⟩
  · exact p1.elim
theorem re_imp {f : SE} {σ : L2.St} {H : Hp} {Q Q' : VK} (h : RE X W f σ H Q) (i : ∀ v H, Q v H → Q' v H) : RE X W f σ H Q' := by
  obtain ⟨φ, G, Bs, env, st, S, R, p⟩ := h
  exact ⟨φ, G, Bs, env, st, S, R, p.imp fun v s φ1 G1 H1 g1 p1 lv r => i _ _ (p1 lv r)⟩
theorem je_kin (T : TabN X.K X.w X.mg x kvs) (hg : Gl X x) (ha : JE X W a fa) (hm : behindInMarks .In (.Name x dpos) = false := by rfl) (hd : (x == ("__debug__" : Str)) = false := by decide) : JE X W (.Compare a [.In] [.Name x dpos] pos) (sKin kvs fa) := by
  obtain ⟨d, hx, T⟩ := T.ex
  obtain ⟨es, n, D, g⟩ := T.get
  refine je_w (pe_cmpR (op_in_kd D) ha (pe_glob (v := .ref d) hg hx rfl hd) hm) fun σ H Q h => ?_
  refine re_imp (kin_of T h) fun y H1 ⟨z, r, e1, e2, e3⟩ => ?_
  exact ⟨z, r, e1, rfl, e2, e3⟩
theorem je_knin (T : TabN X.K X.w X.mg x kvs) (hg : Gl X x) (ha : JE X W a fa) (hm : behindInMarks .NotIn (.Name x dpos) = false := by rfl) (hd : (x == ("__debug__" : Str)) = false := by decide) : JE X W (.Compare a [.NotIn] [.Name x dpos] pos) (sKnin kvs fa) := by
  obtain ⟨d, hx, T⟩ := T.ex
  obtain ⟨es, n, D, g⟩ := T.get
  refine je_w (pe_cmpR (op_notIn_kd D) ha (pe_glob (v := .ref d) hg hx rfl hd) hm) fun σ H Q h => ?_
  refine re_imp (knin_of T h) fun y H1 ⟨z, r, e1, e2, e3⟩ => ?_
  exact ⟨z, r, e1, rfl, e2, e3⟩
theorem jt_kin (T : TabN X.K X.w X.mg x kvs) (hg : Gl X x) (ha : JE X W a fa) (hm : behindInMarks .In (.Name x dpos) = false := by rfl) (hd : (x == ("__debug__" : Str)) = false := by decide) : JT X W (.Compare a [.In] [.Name x dpos] pos) (tB (sKin kvs fa)) := by
  obtain ⟨d, hx, T⟩ := T.ex
  obtain ⟨es, n, D, g⟩ := T.get
  refine jt_w (pt_cmpR (op_in_kd D) ha (pe_glob (v := .ref d) hg hx rfl hd) hm) fun σ H Q h => ?_
  refine re_imp (kin_of T (tB_of h)) fun y H1 ⟨z, r, e1, e2, e3⟩ => ?_
  exact ⟨z, r, e1, rfl, e2, e3⟩
theorem jt_knin (T : TabN X.K X.w X.mg x kvs) (hg : Gl X x) (ha : JE X W a fa) (hm : behindInMarks .NotIn (.Name x dpos) = false := by rfl) (hd : (x == ("__debug__" : Str)) = false := by decide) : JT X W (.Compare a [.NotIn] [.Name x dpos] pos) (tB (sKnin kvs fa)) := by
  obtain ⟨d, hx, T⟩ := T.ex
  obtain ⟨es, n, D, g⟩ := T.get
  refine jt_w (pt_cmpR (op_notIn_kd D) ha (pe_glob (v := .ref d) hg hx rfl hd) hm) fun σ H Q h => ?_
  refine re_imp (knin_of T (tB_of h)) fun y H1 ⟨z, r, e1, e2, e3⟩ => ?_
  exact ⟨z, r, e1, rfl, e2, e3⟩
theorem je_kget (T : TabN X.K X.w X.mg x kvs) (hg : Gl X x) (ha : JE X W a fa) (hs : NoSl a) (hd : (x == ("__debug__" : Str)) = false := by decide) : JE X W (.Subscript (.Name x dpos) a pos) (sKget kvs fa) := by
  obtain ⟨d, hx, T⟩ := T.ex
  obtain ⟨es, n, D, g⟩ := T.get
  refine ⟨fun pins s σ H Q I h => ?_⟩
  refine subD_of PySem.F.slot_dict_getitem.lookup hs (thn ((pe_glob (v := .ref d) (pos := dpos) hg hx rfl hd).run pins s σ H (fun y H1 => y = .ref d ∧ H1 = H) I ⟨rfl, rfl⟩) fun u s1 ⟨y, H1, I1, ry, e1, e2⟩ => ?_)
  subst e1 e2
  cases ry
  obtain ⟨φ, G, Bs, env, st, S, R, p⟩ := h
  refine thn (ha.run pins s1 σ _ (fun y H2 => ∃ (z : Str) (u0 : Value) (v0 : LV), y = .str z ∧ PySem.W.nsIn X.K d z = some (some u0) ∧ RelV v0 u0 ∧ Q v0 H2) I1 ⟨φ, G, Bs, env, st, S, R, p.bind.imp fun v s2 φ1 G1 H1 g1 p1 lv r => ?_⟩) fun iv s2 ⟨y, H2, I2, ry, z, u0, v0, e1, e2, e3, q⟩ => ?_
  · split at p1
    · rename_i z
      have e := strV r
      subst e
      have gz := g z
      cases q : kvs.find? fun p => p.1 == z with
      | some k =>
        rw [q] at gz p1
        obtain ⟨u, h1, h2⟩ := gz
        obtain ⟨lv, r1, r2⟩ := pdB_ok (K := X.K) h2
        exact ⟨z, u, lv, rfl, h1, r1, p1 φ1 G1 H1 (Go.here g1.sim) _ (.d (r2 _))⟩
      | none =>
        rw [q] at p1
        exact p1.elim
    · exact p1.elim
  · exact ⟨kd_type D I2, op_item_kd D pins s2 σ H2 (.ref d) y _ _ Q I2 rfl ry ⟨z, u0, v0, rfl, e1, e2, e3, q⟩⟩
theorem je_kgetI (T : TabNI X.K X.mg x kvi) (hg : Gl X x) (ha : JE X W a fa) (hs : NoSl a) (hd : (x == ("__debug__" : Str)) = false := by decide) : JE X W (.Subscript (.Name x dpos) a pos) (sKgetI kvi fa) := by
  obtain ⟨d, hx, T⟩ := T.ex
  obtain ⟨es, n, hl, hb⟩ := T.ex
  refine ⟨fun pins s σ H Q I h => ?_⟩
  refine subD_of PySem.F.slot_dict_getitem.lookup hs (thn ((pe_glob (v := .ref d) (pos := dpos) hg hx rfl hd).run pins s σ H (fun y H1 => y = .ref d ∧ H1 = H) I ⟨rfl, rfl⟩) fun u s1 ⟨y, H1, I1, ry, e1, e2⟩ => ?_)
  subst e1 e2
  cases ry
  obtain ⟨φ, G, Bs, env, st, S, R, p⟩ := h
  refine thn (ha.run pins s1 σ _ (fun y H2 => ∃ (z : Int) (e0 : DictEntry) (v0 : LV), y = .int z ∧ es.toList.find? (fun k => Value.isInt z k.key) = some e0 ∧ RelV v0 e0.val ∧ Q v0 H2) I1 ⟨φ, G, Bs, env, st, S, R, p.bind.imp fun v s2 φ1 G1 H1 g1 p1 lv r => ?_⟩) fun iv s2 ⟨y, H2, I2, ry, z, e0, v0, e1, e2, e3, q⟩ => ?_
  · split at p1
    · rename_i z
      have e := intV r
      subst e
      have gz := entI_find hb z
      cases q : kvi.find? fun p => p.1 == z with
      | some k =>
        rw [q] at gz p1
        obtain ⟨e0, h1, h2⟩ := gz
        obtain ⟨lv, r1, r2⟩ := pdB_ok (K := X.K) h2
        exact ⟨z, e0, lv, rfl, h1, r1, p1 φ1 G1 H1 (Go.here g1.sim) _ (.d (r2 _))⟩
      | none =>
        rw [q] at p1
        exact p1.elim
    · exact p1.elim
  · have M : s2.heap.MapOf (intKind X.prog X.w) d (fun k => findBy Value.isInt es k) := ⟨_, es, n, I2.kIn _ _ hl, ⟨rfl, rfl, rfl⟩, rfl, fun e he => entI_keys hb e (Array.mem_toList_iff.mpr he), fun _ => rfl⟩
    subst e1
    obtain ⟨t, rfl⟩ := ry
    refine ⟨M.typeIs, wpAny_getItem_of (intKind_is X.prog X.w z t) M (v := e0.val) ?_ ⟨v0, H2, I2.tok _, e3, q⟩⟩
    unfold findBy
    rw [find_arr, e2]
    rfl
end

/-! ### isinstance(x, T), T built-in -/
def tyN : Va → Sto → Option String
  | .d .none, _ => some "NoneType"
  | .d (.bool _), _ => some "bool"
  | .d (.int _), _ => some "int"
  | .d (.str _), _ => some "str"
  | .d (.list _), _ => some "list"
  | .d (.tuple _), _ => some "tuple"
  | .d (.dict _), _ => some "dict"
  | .t _, _ => some "tuple"
  | .r i, st => match st.obs[i]? with
    | some (some (.l _)) => some "list"
    | some (some (.m _)) => some "dict"
    | _ => none
  | _, _ => none
theorem tyx_tup {K : PySem.W.Frag} {H : Hp} {a : Addr} {xs : List LV} (h : SqT K H a xs) : TyX K H (.ref a) (.type "tuple") := by
  rcases h with (h | ⟨o, h⟩) | ⟨o, its, n, h, c, _⟩
  · exact .base (.tup h)
  · exact .fTuple h
  · exact .kTuple h c
theorem tyN_rep {K : PySem.W.Frag} {φ : Nat → Addr} {G : Hp} {Bs : List Nat} {st : Sto} {H : Hp} (S : SimS K φ G Bs st H) {v : Va} {x : LV} {k : String} (r : RepV K φ st.n G v x) (e : tyN v st = some k) : TyX K H x (.type k) := by
  cases r with
  | d r =>
    cases r with
    | non => cases e; exact .base .non
    | bl b => cases e; exact .base (.bl b)
    | int i => cases e; exact .base (.int i)
    | str z => cases e; exact .base (.str z)
    | lst s r => cases e; exact .base (.lst (S.sub _ _ s))
    | tup s r => cases e; exact tyx_tup (sqT_mono S.sub s)
    | dct s r => cases e; exact .base (.dK (S.sub _ _ s))
  | @r i hi =>
    unfold tyN at e
    dsimp only at e
    split at e
    · rename_i xs q
      cases e
      obtain ⟨_, ho, h1, h2⟩ := S.ob i _ q
      cases h2 with
      | l r => exact .base (.lst h1)
    · rename_i xs q
      cases e
      obtain ⟨_, ho, h1, h2⟩ := S.ob i _ q
      cases h2 with
      | m r => exact .base (.dK h1)
    · cases e
  | t s r => cases e; exact tyx_tup (sqT_mono S.sub s)
  | s h => cases e
def sIsi (T : String) (f : SE) : SE := fun env st => (f env st).bind fun v s => match (tyN v s).bind fun k => kitB k T with
  | some b => .ok (.d (.bool b)) s
  | none => .bad
section
variable {X : Cx} {W : WX} {pos p1 p2 : Pos} {e : Expr} {f : SE}
theorem je_isi {T : Str} {N : String} (hg : Gl X "isinstance") (hm : X.mg "isinstance" = none) (he : JE X W e f) (hT : Gl X T) (hmT : X.mg T = none) (hv : bootBuiltins T = some (.type N)) (hn : T ≠ "__name__" := by decide) (hd : (T == ("__debug__" : Str)) = false := by decide)
    (hs : starEach [e, .Name T p2] X.env = (false, eval e X.env) :: starEach [.Name T p2] X.env := by rfl) (hpl : (backTo pos (starEach [.Name T p2] X.env)).any (·.1) = false := by rfl)
    (hs2 : starEach [.Name T p2] X.env = (false, eval (.Name T p2) X.env) :: starEach [] X.env := by rfl) : JE X W (.Call (.Name "isinstance" p1) [e, .Name T p2] [] pos) (sIsi N f) := by
  refine je_w (pe_callB call_isi hg hm boot_isinstance (pa_cons he (pa_cons (pe_bltn (v := .ty N) hT hmT hv rfl hn hd) pa_nil hs2) hs) (he := hs) (hpl := hpl)) fun σ H Q ⟨φ, G, Bs, env, st, S, R, p⟩ => ?_
  refine ⟨φ, G, Bs, env, st, S, R, p.bind.imp fun v s φ1 G1 H1 g1 q lv r => ?_⟩
  split at q
  · rename_i b hb
    obtain ⟨k, e1, e2⟩ := Option.bind_eq_some_iff.mp hb
    exact ⟨lv, .ty N, .type k, .type N, b, rfl, .ty N, tyN_rep g1.sim r e1, kit_ty e2, q φ1 G1 H1 (Go.here g1.sim) _ (.d (.bl _))⟩
  · exact q.elim
end
end Vi

set_option maxHeartbeats 1000000
/-! ViA: repr. -/
namespace Vi
open PySem PySem.Spec PyProof.Rows L2

def seqD : PD → Bool
  | .list _ => true
  | .tuple _ => true
  | _ => false
/-- what repr takes -/
structure Shw (d : PD) : Prop where
  lay : d.canLay0 = true
  shw : d.showable = true
  nod : d.hasDict = false
  dep : d.depth ≤ 64
  len : d.shown.length ≤ sizeLine
instance (d : PD) : Decidable (Shw d) := decidable_of_iff (d.canLay0 = true ∧ d.showable = true ∧ d.hasDict = false ∧ d.depth ≤ 64 ∧ d.shown.length ≤ sizeLine) ⟨fun ⟨a, b, c, e, f⟩ => ⟨a, b, c, e, f⟩, fun ⟨a, b, c, e, f⟩ => ⟨a, b, c, e, f⟩⟩
def cRepr : ON := fun vs st => match vs with
  | [v] => (peek v st).bind fun d => if seqD d = true ∧ Shw d then some (.d (.str d.shown), st) else none
  | _ => none
theorem jc_repr {X : Cx} (F : Fit X) : JCl X (.builtin "repr") cRepr := by
  refine jcl fun pins s σ H xs us Q φ G Bs st as c s' I rx S ra e give => ?_
  unfold cRepr at e
  split at e
  · rename_i v
    cases ep : peek v st with
    | none => rw [ep] at e; cases e
    | some d =>
      rw [ep, Option.bind_some] at e
      split at e
      · rename_i hd
        cases e
        obtain ⟨hq, hl, hsh, hn, hdp, hz⟩ := hd
        obtain ⟨x, rfl, r⟩ := one_rep ra
        obtain ⟨u, rfl, ru⟩ := rx.one
        have dp := peek_dp S r ep hl
        obtain ⟨rs, rd⟩ := Dp.reads I d x u dp ru
        obtain ⟨a, rfl⟩ : ∃ a, u = .ref a := by
          cases dp with
          | lst _ _ => exact ⟨_, ru⟩
          | tup _ _ => exact ⟨_, ru⟩
          | _ => cases hq
        have room : X.A.units + (d.depth + 1) < cLine := by have := F.un; omega
        exact repr_of_reads' rd hsh (PyData.noDict_hsm hn) F.gd room (fun _ _ q => q) (fun h' u tk hk => ⟨.str d.shown, H, I.kept (t' := tk) hk, ⟨u, rfl⟩, give φ G H (Go.here S) _ (.d (.str _))⟩) hz
      · cases e
  · cases e
theorem boot_rp : bootBuiltins "repr" = some (.builtin "repr") := by decide +kernel
/-- short data may be shown -/
theorem shw_of {d : PD} (h1 : PyData.layable0 d = true) (h2 : d.intsShort 13 = true) (h3 : d.showable = true) (h4 : d.hasDict = false) : Shw d := by
  have h : (PyData.canLay0 d && decide (PyData.depth d ≤ 64) && decide (PyData.weight d ≤ 2 ^ 20)) = true := h1
  simp only [Bool.and_eq_true, decide_eq_true_eq] at h
  exact ⟨h.1.1, h3, h4, h.1.2, Nat.le_trans (shown_le13 h1 h2) (by decide)⟩
end Vi

set_option maxHeartbeats 1000000
/-! ViB: sorted, ints. -/
namespace Vi
open PySem PySem.Spec PyProof.Rows L2

def insI (x : Int) : List Int → List Int
  | [] => [x]
  | y :: ys => if x ≤ y then x :: y :: ys else y :: insI x ys
def srtI : List Int → List Int
  | [] => []
  | x :: xs => insI x (srtI xs)
theorem insI_perm (x : Int) : ∀ ys : List Int, (insI x ys).Perm (x :: ys)
  | [] => .refl _
  | y :: ys => by
    unfold insI
    split
    · exact .refl _
    · exact ((insI_perm x ys).cons y).trans (.swap x y ys)
theorem srtI_perm : ∀ xs : List Int, (srtI xs).Perm xs
  | [] => .refl _
  | x :: xs => (insI_perm x (srtI xs)).trans ((srtI_perm xs).cons x)
theorem insI_srt (x : Int) : ∀ ys : List Int, ys.Pairwise (· ≤ ·) → (insI x ys).Pairwise (· ≤ ·)
  | [], _ => by simp [insI]
  | y :: ys, h => by
    unfold insI
    obtain ⟨h1, h2⟩ := List.pairwise_cons.mp h
    split
    · rename_i q
      exact List.pairwise_cons.mpr ⟨fun z hz => (List.mem_cons.mp hz).elim (fun e => e ▸ q) fun m => Int.le_trans q (h1 z m), h⟩
    · rename_i q
      refine List.pairwise_cons.mpr ⟨fun z hz => ?_, insI_srt x ys h2⟩
      have := (insI_perm x ys).mem_iff.mp hz
      exact (List.mem_cons.mp this).elim (fun e => by omega) (h1 z)
theorem srtI_srt : ∀ xs : List Int, (srtI xs).Pairwise (· ≤ ·)
  | [] => .nil
  | x :: xs => insI_srt x _ (srtI_srt xs)
theorem srt_unique : ∀ {xs ys : List Int}, xs.Perm ys → xs.Pairwise (· ≤ ·) → ys.Pairwise (· ≤ ·) → xs = ys
  | [], ys, p, _, _ => (List.perm_nil.mp p.symm).symm
  | x :: xs, [], p, _, _ => absurd (List.perm_nil.mp p) (by simp)
  | x :: xs, y :: ys, p, h1, h2 => by
    obtain ⟨a1, a2⟩ := List.pairwise_cons.mp h1
    obtain ⟨b1, b2⟩ := List.pairwise_cons.mp h2
    have e : x = y := by
      have m1 : x ∈ y :: ys := p.mem_iff.mp List.mem_cons_self
      have m2 : y ∈ x :: xs := p.mem_iff.mpr List.mem_cons_self
      rcases List.mem_cons.mp m1 with e | m1
      · exact e
      · rcases List.mem_cons.mp m2 with e | m2
        · exact e.symm
        · exact Int.le_antisymm (a1 y m2) (b1 x m1)
    subst e
    rw [srt_unique (List.Perm.cons_inv p) a2 b2]
def intsD : List PD → Option (List Int)
  | [] => some []
  | .int i :: r => (intsD r).map (i :: ·)
  | _ :: _ => none
theorem intsD_eq : ∀ {ds : List PD} {ns : List Int}, intsD ds = some ns → ds = ns.map .int
  | [], _, e => by cases e; rfl
  | .int i :: r, ns, e => by
    cases q : intsD r with
    | none => simp [intsD, q] at e
    | some ms =>
      simp only [intsD, q, Option.map_some, Option.some.injEq] at e
      subst e
      rw [intsD_eq q]
      rfl
  | .none :: _, _, e => by cases e
  | .bool _ :: _, _, e => by cases e
  | .str _ :: _, _, e => by cases e
  | .list _ :: _, _, e => by cases e
  | .tuple _ :: _, _, e => by cases e
  | .dict _ :: _, _, e => by cases e
theorem intsD_map : ∀ ns : List Int, intsD (ns.map .int) = some ns
  | [] => rfl
  | n :: ns => by show (intsD (ns.map .int)).map _ = _; rw [intsD_map ns]; rfl
theorem reps_int {K : PySem.W.Frag} {G : Hp} : ∀ {ns : List Int} {vs : List LV}, RepDs K G (ns.map .int) vs → vs = ns.map V.int
  | [], _, r => by cases r; rfl
  | n :: ns, _, .cons r t => by
    cases r
    rw [reps_int t]
    rfl
/-- sorted(x): a list that nobody writes -/
def cSrt : ON := fun vs st => match vs with
  | [v] => (peekL v st).bind fun ds => (intsD ds).map fun ns => (.d (.list ((srtI ns).map .int)), st)
  | _ => none
/-- .. of the store -/
def cSrtM : ON := fun vs st => match vs with
  | [v] => (peekL v st).bind fun ds => (intsD ds).map fun ns => (.r st.n, st.push (.l (((srtI ns).map PyData.int).map .d)))
  | _ => none
section
variable {X : Cx}
theorem srt_rep {K : PySem.W.Frag} {G : Hp} (ns : List Int) : RepDs K G (ns.map .int) (ns.map V.int) := cut_int ns
theorem jc_srt : JCl X (.builtin "sorted") cSrt := by
  refine jcl fun pins s σ H xs us Q φ G Bs st as c s' I rx S ra e give => ?_
  unfold cSrt at e
  split at e
  · rename_i v
    cases ep : peekL v st with
    | none => rw [ep] at e; cases e
    | some ds =>
      rw [ep, Option.bind_some] at e
      cases ei : intsD ds with
      | none => rw [ei] at e; cases e
      | some ns =>
        rw [ei] at e
        cases e
        obtain ⟨x, rfl, r⟩ := one_rep ra
        obtain ⟨a, ys, rfl, h1, h2⟩ := peekL_rep S r ep
        rw [intsD_eq ei] at h2
        have e2 := reps_int h2
        subst e2
        refine cr_sortedI pins s σ H _ us Q I rx ⟨a, ns, rfl, .of h1, fun ns' p pm sd hp => ?_⟩
        rw [srt_unique (pm.trans (srtI_perm ns).symm) sd (srtI_srt ns)]
        exact laid_give S hp (fun G' sg e => .d (.lst e (srt_rep _))) give
  · cases e
theorem jc_srtM : JCl X (.builtin "sorted") cSrtM := by
  refine jcl fun pins s σ H xs us Q φ G Bs st as c s' I rx S ra e give => ?_
  unfold cSrtM at e
  split at e
  · rename_i v
    cases ep : peekL v st with
    | none => rw [ep] at e; cases e
    | some ds =>
      rw [ep, Option.bind_some] at e
      cases ei : intsD ds with
      | none => rw [ei] at e; cases e
      | some ns =>
        rw [ei] at e
        cases e
        obtain ⟨x, rfl, r⟩ := one_rep ra
        obtain ⟨a, ys, rfl, h1, h2⟩ := peekL_rep S r ep
        rw [intsD_eq ei] at h2
        have e2 := reps_int h2
        subst e2
        refine cr_sortedI pins s σ H _ us Q I rx ⟨a, ns, rfl, .of h1, fun ns' p pm sd hp => ?_⟩
        rw [srt_unique (pm.trans (srtI_perm ns).symm) sd (srtI_srt ns)]
        exact made_give S hp (fun b hb _ => upd_ne hb) upd_same (.l (.of_data (srt_rep _))) give
  · cases e
end
/-- a, b, c = x, y, z -/
def xPar3 (i j l : Nat) (f : SA) : SS := fun env st => toS (f env st) env fun vs s => match vs with
  | [v, w, u] => .ok (.nx (((env.set i (some v)).set j (some w)).set l (some u))) s
  | _ => .bad
theorem three_rep {K : PySem.W.Frag} {φ : Nat → Addr} {n : Nat} {G : Hp} {a b c : Va} {xs : List LV} (r : RepVs K φ n G [a, b, c] xs) : ∃ x y z, xs = [x, y, z] ∧ RepV K φ n G a x ∧ RepV K φ n G b y ∧ RepV K φ n G c z := by
  cases r with
  | cons r1 r =>
    obtain ⟨y, z, rfl, r2, r3⟩ := two_rep r
    exact ⟨_, y, z, rfl, r1, r2, r3⟩
theorem js_par3 {X : Cx} {W : WX} {i j l : Nat} {x y z : Str} {ea eb ec : Expr} {fa : SA} {px py pz pt pos : Pos} {kt k2 pt2} (hc : X.calm = true) (hN : X.N.Nodup) (ha : JA X W [ea, eb, ec] fa) (hi : X.N[i]? = some x := by rfl) (hj : X.N[j]? = some y := by rfl) (hl : X.N[l]? = some z := by rfl) (hij : i ≠ j := by decide) (hil : i ≠ l := by decide) (hjl : j ≠ l := by decide)
    (hx : X.env.scope.names.lookup x = some .local := by rfl) (hy : X.env.scope.names.lookup y = some .local := by rfl) (hz : X.env.scope.names.lookup z = some .local := by rfl)
    (hw : swappedStores [.Tuple [.Name x px, .Name y py, .Name z pz] kt pt] (.Tuple [ea, eb, ec] k2 pt2) X.env = pure (some [x, y, z]) := by rfl)
    (hs : swapsWithSole [.Tuple [.Name x px, .Name y py, .Name z pz] kt pt] (.Tuple [ea, eb, ec] k2 pt2) pos.line X.env = pure false := by rfl) : JS X W (.Assign [.Tuple [.Name x px, .Name y py, .Name z pz] kt pt] (.Tuple [ea, eb, ec] k2 pt2) pos) (xPar3 i j l fa) := by
  refine js_w (ps_par3 hc hN hi hj hl hij hil hjl hx hy hz ha hw hs) fun D σ H ⟨φ, G, Bs, env, st, S, R, p⟩ => ?_
  refine ⟨φ, G, Bs, env, st, S, R, (p.toS R).imp fun vs s φ1 G1 H1 g p1 lvs r => ?_⟩
  split at p1
  · rename_i v w u
    obtain ⟨x', y', z', rfl, r1, r2, r3⟩ := three_rep r
    exact ⟨x', y', z', rfl, p1 φ1 G1 H1 (Go.here g.sim) _ ((((g.env R).set i r1).set j r2).set l r3)⟩
  · exact p1.elim
end Vi

set_option maxHeartbeats 1000000
/-! ViE: from the law's def in the plain interpreter to the statement's walk. -/
namespace Vi
open PySem PySem.Spec PyProof.Rows L2

theorem and_l {a b : Bool} (h : (a && b) = true) : a = true := (Bool.and_eq_true_iff.mp h).1
theorem and_r {a b : Bool} (h : (a && b) = true) : b = true := (Bool.and_eq_true_iff.mp h).2
/-- a def without defaults, as the head tells it -/
theorem fun_of {K : PySem.W.Frag} {x q : Str} {st : Stmt} {f : Addr} {fd : FuncData} (F : FunD K x q (defArgs st) (defBody st) (defScope st) [] [] f fd) : Fun K x q st f fd := by
  obtain ⟨oc, od, dV, kV, doc, pm, an, cdv, ct, osl, e, lk, hc, dv, _⟩ := F.ex
  rcases dv with ⟨_, dv⟩ | ⟨z, _⟩
  · subst dv
    exact ⟨⟨oc, od, kV, doc, pm, an, cdv, ct, osl, e, lk, hc⟩, F.kp⟩
  · exact absurd rfl z
theorem binds_1 {K : PySem.W.Frag} {x y : Str} {st : Stmt} {f : Addr} {fd : FuncData} (Fn : Fun K x x st f fd) (hb : BindP x st [y]) (s : Shared) (u : Value) : BindsTo s fd ⟨[u], []⟩ [(y, u)] := by
  obtain ⟨oc, od, kV, doc, pv, an, cdv, ct, osl, rfl, lk, hcd⟩ := Fn.ex
  exact .of_eq (hb kV doc pv an cdv ct [u] rfl)
theorem FnG.up {P : Program} {w : World} {K : PySem.W.Frag} {mg : Str → Option Value} {base : Heap} {j k : Nat} {f : Addr} {fd : FuncData} {ps : List Str} {sp : Sp} (F : FnG P w K mg base j f fd ps sp) (h : j ≤ k) : FnG P w K mg base k f fd ps sp :=
  ⟨F.len, fun A outer s H args us vs Q E hg hr => F.run A outer s H args us vs Q E hg (hr.mono h)⟩
theorem FnT.up {P : Program} {w : World} {K : PySem.W.Frag} {mg : Str → Option Value} {base : Heap} {j k : Nat} {x : Str} {ps : List Str} {st : Stmt} {F : FS} (T : FnT P w K mg base j x ps st F) (h : j ≤ k) : FnT P w K mg base k x ps st F :=
  let ⟨f, fd, a, b, c⟩ := T.ex
  ⟨⟨f, fd, a, b, c.up h⟩, T.no⟩
section
variable {X : Cx} {W : WX} {k : Nat} {x : Str} {st : Stmt} {F : FS} {p pos : Pos}
theorem je_f0 (B : Bd X W k) (T : FnT X.prog X.w X.K X.mg X.base k x [] st F) (hb : BindP x st []) (hg : Gl X x) (hdb : (x == ("__debug__" : Str)) = false := by decide) : JE X W (.Call (.Name x p) [] [] pos) (sF F aNil) := by
  obtain ⟨f, fd, Fn, hm, T⟩ := T.ex
  refine ⟨fun pins s σ H Q I ⟨φ, G, Bs, env, sto, S, R, q⟩ => ?_⟩
  refine wpAny_Call_Name_kw (ld_glob I hg hm ?_ hdb)
  have hbt := Fn.binds (ps := []) hb s [] I.kIn rfl
  exact PySem.W.callWith_K0 I.kIn Fn.kp (run_g (ps := []) T B I hbt .nil rfl S .nil q)
end

/-- the store at the law's call: empty -/
abbrev st0 : Sto := ⟨[], 0⟩
theorem sim0 {K : PySem.W.Frag} {H : Hp} : SimS K (fun _ => 0) H [] st0 H where
  sub := Same.refl H
  ob := fun i o e => by cases e
  inj := fun i j oi oj e _ _ => by cases e
  bs := fun b hb => by cases hb
  bl := Nat.le_refl _
theorem noDict {H : Hp} {h : Heap} {a b : Addr} {vs : List Value} {o : Obj} {es : Array DictEntry} {ep : Nat} (ha : h.get? a = some { cls := .type "list", data := .seq vs.toArray }) (hA : ∀ b, H b ≠ none → b = a)
    (e : h.get? b = some o) (d : o.data = .dict es ep) : H b = none := Classical.byContradiction fun z => by
  have q := hA b z
  subst q
  have := (Option.some.inj (ha.symm.trans e))
  subst this
  cases (show Data.seq vs.toArray _ = Data.dict es ep from d)
section
variable {P : Program} {w : World} {K : PySem.W.Frag} {mg mb : Str → Option Value} {k : Nat} {fa a : Addr} {fd : FuncData} {x : Str} {F : FS} {s₁ : Shared} {vs : List Value} {ns : List Int}
/-- the call, where what is tracked is nothing, or the script -/
theorem call_at {H : Hp} (KX : K.In s₁.heap) (gM : s₁.heap.Ns mainGlobals mg) (gB : s₁.heap.Ns builtinsNs mb) (boot : ∀ x : Str, x ≠ "__name__" → mb x = bootBuiltins x) (lim : s₁.heap.NoLimit) (hg : s₁.gens = #[])
    (ha : s₁.heap.get? a = some { cls := .type "list", data := .seq vs.toArray }) (hr : Room k callerA) (T : ∀ base : Heap, K.In base → base.Ns mainGlobals mg → FnG P w K mg base k fa fd [x] (spF K 1 F))
    (hbind : ∀ (s : Shared) (u : Value), BindsTo s fd ⟨[u], []⟩ [(x, u)]) (hF : ∃ s', F [.s ns] st0 = .ok (.d (.bool true)) s')
    (hO : Only H) (hS : SqL K H a (ns.map V.int)) (ok : HOk P w H s₁.heap) (hA : ∀ b, H b ≠ none → b = a) (hK : H a ≠ none → K.lookup a = none) :
    codeAny (model P w) callerA (.call (.ref fa) ⟨[.ref a], []⟩) (fun r s' => r = .ok (.ret (.bool true)) ∧ OldK s₁.heap s'.heap ∧ s'.os = s₁.os ∧ AllBare s'.gens) s₁ := by
  have keep : ∀ {b : Addr} {m : Str → Option Value}, s₁.heap.Ns b m → (hidT s₁.heap H).Ns b m := fun ⟨o, es, ep, e, d, r⟩ => ⟨o, es, ep, hidT_get e (noDict ha hA e d), d, r⟩
  have kin : K.In (hidT s₁.heap H) := fun b o e => hidT_get (KX b o e) (Classical.byContradiction fun z => by
    have q := hA b z
    subst q
    rw [hK z] at e
    cases e)
  obtain ⟨mc, l1, l2⟩ := lim
  have M : Mod K mg (hidT s₁.heap H) := ⟨kin, keep gM, ⟨mb, keep gB, boot⟩, ⟨mc, keep l1, l2⟩⟩
  have none0 : ∀ {α : Prop} {b : Addr}, b ∈ ([] : List Addr) → α := fun z => by cases z
  have E0' : Env0 P w K mg (hidT s₁.heap H) callerA [] s₁ H := ⟨rfl, M, fun b o e => of_hidT e, Nat.le_of_eq (hidT_size _ _), trivial, fun b z => none0 z, ok, .of_eq hg⟩
  obtain ⟨st', eF⟩ := hF
  have sp : spF K 1 F [V.ref a] H (fun v _ => v = .bl true) (fun _ _ _ => False) := by
    refine ⟨rfl, fun _ => 0, H, [], st0, [.s ns], sim0, .cons (.s hS) .nil, ?_⟩
    rw [eF]
    exact fun φ' G' H' g lv r => blV r
  have run := (T _ kin (keep gM)).run callerA [] s₁ H ⟨[.ref a], []⟩ [.ref a] [V.ref a] _ _ rfl hr E0' (hbind s₁ (.ref a)) (.cons rfl .nil) sp
  refine codeAny_mono run fun r s' q => ?_
  match r, q with
  | .error e, q =>
    exact q.elim fun _ z => by simp at z
  | .ok .next, q => exact q.elim
  | .ok .brk, q => exact q.elim
  | .ok .cont, q => exact q.elim
  | .ok (.ret u), ⟨v, H', os, bare, un, ok', rv, (e : v = .bl true)⟩ =>
    subst e
    have eu : u = .bool true := rv
    subst eu
    refine ⟨rfl, OldK.of_keep fun b o e => ?_, os, bare⟩
    rcases hO b with z | ⟨ob, xs, z⟩
    · exact un.keep b o e z (fun q => none0 q) (by simp)
    · have e1 := (ok b _ z).1
      have e2 := (ok' b _ (un.frzs b ob _ z)).1
      exact e2.trans (e1.symm.trans e)
/-- THE END: the law's call -/
theorem call_g (KX : K.In s₁.heap) (gM : s₁.heap.Ns mainGlobals mg) (gB : s₁.heap.Ns builtinsNs mb) (boot : ∀ x : Str, x ≠ "__name__" → mb x = bootBuiltins x) (lim : s₁.heap.NoLimit) (hg : s₁.gens = #[])
    (ha : s₁.heap.get? a = some { cls := .type "list", data := .seq vs.toArray }) (hi : IntsAre vs ns) (hl : ns.length ≤ sizeLine) (hr : Room k callerA) (T : ∀ base : Heap, K.In base → base.Ns mainGlobals mg → FnG P w K mg base k fa fd [x] (spF K 1 F))
    (hbind : ∀ (s : Shared) (u : Value), BindsTo s fd ⟨[u], []⟩ [(x, u)]) (hF : ∃ s', F [.s ns] st0 = .ok (.d (.bool true)) s') :
    codeAny (model P w) callerA (.call (.ref fa) ⟨[.ref a], []⟩) (fun r s' => r = .ok (.ret (.bool true)) ∧ OldK s₁.heap s'.heap ∧ s'.os = s₁.os ∧ AllBare s'.gens) s₁ := by
  have vi := vals_ints hi
  cases q : K.lookup a with
  | some o =>
    have e := Option.some.inj ((KX a o q).symm.trans ha)
    subst e
    have S : SqL K (fun _ => none) a (ns.map V.int) := .inr ⟨_, vs.toArray, _, q, rfl, rfl, rfl, by rw [List.size_toArray, hi.length]; exact hl, by simpa using vi⟩
    exact call_at KX gM gB boot lim hg ha hr T hbind hF (fun _ => .inl rfl) S (fun b u z => by cases z) (fun b z => absurd rfl z) fun z => absurd rfl z
  | none =>
    let H1 : Hp := fun b => if b = a then some (.frz { cls := .type "list", data := .seq vs.toArray } (.lst (ns.map V.int))) else none
    have yes : H1 a = some (.frz { cls := .type "list", data := .seq vs.toArray } (.lst (ns.map V.int))) := if_pos rfl
    have no : ∀ b, b ≠ a → H1 b = none := fun b h => if_neg h
    refine call_at (H := H1) KX gM gB boot lim hg ha hr T hbind hF (fun b => ?_) (.inl (.inr ⟨_, yes⟩)) (fun b u z => ?_) (fun b z => Classical.byContradiction fun h => z (no b h)) fun _ => q
    · by_cases h : b = a
      · subst h
        exact .inr ⟨_, _, yes⟩
      · exact .inl (no b h)
    · by_cases h : b = a
      · subst h
        cases yes.symm.trans z
        exact ⟨ha, by rw [List.length_map]; exact hl, vs, _, vi, ha⟩
      · cases (no b h).symm.trans z
end
/-- the walk that the head asks for -/
theorem walk_g {l : PySem.W.OpenLaw} {n k : Nat} {q : Program} {loose : List Str} {XP : (Str → Option Value) → Heap → Prop} {YP : World → Heap → Prop} {d : DefRec} {x : Str} {F : FS} (hn : l.most = some n) (hn2 : n ≤ sizeLine) (hdf : d.params.defaults = []) (hr : Room k callerA)
    (T : ∀ (w : World) (mg : Str → Option Value) (fa : Addr) (h : Heap), YP w h → h.Ns mainGlobals mg → mg d.name = some (.ref fa) → ∃ (K : PySem.W.Frag) (fd : FuncData), K.In h ∧ (∀ (s : Shared) (u : Value), BindsTo s fd ⟨[u], []⟩ [(x, u)]) ∧
      ∀ base : Heap, K.In base → base.Ns mainGlobals mg → FnG l.prog w K mg base k fa fd [x] (spF K 1 F))
    (hF : ∀ ns : List Int, ns.length ≤ n → ∃ s', F [.s ns] st0 = .ok (.d (.bool true)) s') : PySem.W.WalkO q loose XP YP l.row.toRowW d [] (fun f vs => PySem.call f vs) := by
  refine Att.attach_call hn hdf fun w s₀ s₁ mg mb fa o pm cd doc a vs ns Gd Y ho hd hcd hmg hobj hints hlen hg => ?_
  obtain ⟨K, fd, KX, hb, tf⟩ := T w mg fa _ Y Gd.T.g hmg
  exact call_g KX Gd.T.g Gd.T.b Gd.T.builtins Gd.T.nolimit hg hobj hints (Nat.le_trans hlen hn2) hr tf hb (hF ns hlen)
end Vi

set_option maxHeartbeats 1000000
/-! ViL: for the laws: how the combinators run, draws. -/
namespace Vi
open PySem PySem.Spec PyProof.Rows L2

theorem rr {α : Sort _} {a b : α} (h : a = b) : a = b := h.trans rfl
section
variable {α β : Type}
theorem bind_cg {r r' : Res α} {k : α → Sto → Res β} (h : r = r') : r.bind k = r'.bind k := by rw [h]
theorem bindN_cg {r r' : Res α} {k : α → Sto → Res β} (h : r = r') : bindN r k = bindN r' k := by rw [h]
theorem toS_cg {r r' : Res α} {env : Ev} {k : α → Sto → Res Out} (h : r = r') : toS r env k = toS r' env k := by rw [h]
@[simp] theorem bind_ok {a : α} {s : Sto} {k : α → Sto → Res β} : (Res.ok a s).bind k = k a s := rr rfl
@[simp] theorem bindN_ok {a : α} {s : Sto} {k : α → Sto → Res β} : bindN (Res.ok a s) k = k a s := rr rfl
@[simp] theorem toS_ok {a : α} {s : Sto} {env : Ev} {k : α → Sto → Res Out} : toS (Res.ok a s) env k = k a s := rr rfl
@[simp] theorem lift_some {a : α} {s : Sto} : lift (some (a, s)) = .ok a s := rr rfl
end
section
variable {env : Ev} {st : Sto} {a b c : SE} {g g' : O2} {d : PD} {f : SA} {F : FS} {t u : ST} {x y : SS} {tg : SG} {ug : SGs} {it : SI}
@[simp] theorem sK_ap : sK d env st = .ok (.d d) st := rr rfl
@[simp] theorem sV_ap {i : Nat} : sV i env st = (match env[i]? with
  | some (some v) => .ok v st
  | _ => .bad) := rr rfl
@[simp] theorem s2_ap : s2 g a b env st = (a env st).bind fun x s => (b env s).bind fun y s => lift (g x y s) := rr rfl
@[simp] theorem sF_ap : sF F f env st = (f env st).bind fun vs s => F vs s := rr rfl
@[simp] theorem aNil_ap : aNil env st = .ok [] st := rr rfl
@[simp] theorem aCons_ap : aCons a f env st = (a env st).bind fun v s => (f env s).bind fun vs s => .ok (v :: vs) s := rr rfl
@[simp] theorem sTup_ap : sTup f env st = (f env st).bind fun vs s => if vs.length ≤ sizeLine then .ok (mkT vs) s else .bad := rr rfl
@[simp] theorem sLst_ap : sLst f env st = (f env st).bind fun vs s => match allD vs with
  | some ds => if ds.length ≤ sizeLine then .ok (.d (.list ds)) s else .bad
  | none => .bad := rr rfl
@[simp] theorem sLstM_ap : sLstM f env st = (f env st).bind fun vs s => if vs.length ≤ sizeLine then .ok (.r s.n) (s.push (.l vs)) else .bad := rr rfl
@[simp] theorem sNeg_ap : sNeg a env st = (a env st).bind fun v s => match v with
  | .d (.int i) => .ok (.d (.int (-i))) s
  | _ => .bad := rr rfl
@[simp] theorem sIf_ap : sIf t a b env st = (t env st).bind fun k s => if k = true then a env s else b env s := rr rfl
@[simp] theorem sCl_ap {k : ON} : sCl k f env st = (f env st).bind fun vs s => lift (k vs s) := rr rfl
@[simp] theorem sKget_ap {kvs : List (Str × PD)} : sKget kvs a env st = (a env st).bind fun v s => match v with
  | .d (.str z) => (match kvs.find? fun p => p.1 == z with
    | some p => .ok (.d p.2) s
    | none => .bad)
  | _ => .bad := rr rfl
@[simp] theorem sKgetI_ap {kvs : List (Int × PD)} : sKgetI kvs a env st = (a env st).bind fun v s => match v with
  | .d (.int z) => (match kvs.find? fun p => p.1 == z with
    | some p => .ok (.d p.2) s
    | none => .bad)
  | _ => .bad := rr rfl
@[simp] theorem sKin_ap {kvs : List (Str × PD)} : sKin kvs a env st = (a env st).bind fun v s => match v with
  | .d (.str z) => .ok (.d (.bool (kvs.find? fun p => p.1 == z).isSome)) s
  | _ => .bad := rr rfl
@[simp] theorem sKnin_ap {kvs : List (Str × PD)} : sKnin kvs a env st = (a env st).bind fun v s => match v with
  | .d (.str z) => .ok (.d (.bool (!(kvs.find? fun p => p.1 == z).isSome))) s
  | _ => .bad := rr rfl
@[simp] theorem sIsi_ap {T : String} : sIsi T a env st = (a env st).bind fun v s => match (tyN v s).bind fun k => kitB k T with
  | some b => .ok (.d (.bool b)) s
  | none => .bad := rr rfl
@[simp] theorem sCh_ap : sCh g g' a b c env st = (a env st).bind fun x s => (b env s).bind fun y s => (lift (g x y s)).bind fun z s => match z with
  | .d (.bool true) => (c env s).bind fun w s => lift (g' y w s)
  | .d (.bool false) => .ok (.d (.bool false)) s
  | _ => .bad := rr rfl
@[simp] theorem sFK_ap {nu nk : Nat} {pm : List Nat} {k : SA} : sFK F nu nk pm f k env st = (f env st).bind fun vs s => (k env s).bind fun ws s => if vs.length = nu ∧ ws.length = nk then F (pick pm (vs ++ ws)) s else .bad := rr rfl
@[simp] theorem sMt_ap {k : Ty} {m : MV} : sMt k m a f env st = (a env st).bind fun v s => if Ty.same (tyo v s) k = true then (f env s).bind fun vs s => lift (m v vs s) else .bad := rr rfl
@[simp] theorem sNot_ap : sNot a env st = (a env st).bind fun v s => lift ((tru v s).map fun k => (.d (.bool (!k)), s)) := rr rfl
@[simp] theorem sAnd_ap : sAnd a b env st = (a env st).bind fun v s => (lift ((tru v s).map fun k => (k, s))).bind fun k s => if k = true then b env s else .ok v s := rr rfl
@[simp] theorem sOr_ap : sOr a b env st = (a env st).bind fun v s => (lift ((tru v s).map fun k => (k, s))).bind fun k s => if k = true then .ok v s else b env s := rr rfl
@[simp] theorem tB_ap : tB a env st = (a env st).bind fun v s => match v with
  | .d (.bool k) => .ok k s
  | _ => .bad := rr rfl
@[simp] theorem tT_ap : tT a env st = (a env st).bind fun v s => lift ((tru v s).map fun k => (k, s)) := rr rfl
@[simp] theorem tNot_ap : tNot t env st = (t env st).bind fun k s => .ok (!k) s := rr rfl
@[simp] theorem tAnd_ap : tAnd t u env st = (t env st).bind fun k s => if k = true then u env s else .ok false s := rr rfl
@[simp] theorem tOr_ap : tOr t u env st = (t env st).bind fun k s => if k = true then .ok true s else u env s := rr rfl
@[simp] theorem oNo_ap : oNo env st = .ok none st := rr rfl
@[simp] theorem oSo_ap : oSo a env st = (a env st).bind fun v s => match v with
  | .d (.int i) => .ok (some i) s
  | _ => .bad := rr rfl
@[simp] theorem sSl_ap {l h : SO} : sSl a l h env st = (a env st).bind fun x s => (l env s).bind fun lo s => (h env s).bind fun hi s => lift ((oSlM x lo hi s).map fun v => (v, s)) := rr rfl
@[simp] theorem sIt_ap : sIt a env st = (a env st).bind fun v s => match walkV v with
  | some xs => .ok xs s
  | none => .bad := rr rfl
@[simp] theorem sEnm_ap : sEnm f env st = (f env st).bind fun vs s => match vs with
  | [v] => (match frozQ v with
    | some xs => .ok (enumL 0 xs) s
    | none => .bad)
  | _ => .bad := rr rfl
@[simp] theorem sRg1_ap : sRg1 f env st = (f env st).bind fun vs s => match vs with
  | [.d (.int j)] => if -(2 ^ 62) ≤ j ∧ j < 2 ^ 62 then .ok (rngL 0 j.toNat) s else .bad
  | _ => .bad := rr rfl
@[simp] theorem sRg2_ap : sRg2 f env st = (f env st).bind fun vs s => match vs with
  | [.d (.int i), .d (.int j)] => if -(2 ^ 62) ≤ i ∧ i < 2 ^ 62 ∧ -(2 ^ 62) ≤ j ∧ j < 2 ^ 62 then .ok (rngL i (j - i).toNat) s else .bad
  | _ => .bad := rr rfl
@[simp] theorem xSeq_ap : xSeq x y env st = (x env st).bind fun o s => match o with
  | .nx e => y e s
  | o => .ok o s := rr rfl
@[simp] theorem xNil_ap : xNil env st = .ok (.nx env) st := rr rfl
@[simp] theorem xRet_ap : xRet a env st = toS (a env st) env fun v s => .ok (.rt v) s := rr rfl
@[simp] theorem xRetN_ap : xRetN env st = .ok (.rt (.d .none)) st := rr rfl
@[simp] theorem xExp_ap : xExp a env st = toS (a env st) env fun _ s => .ok (.nx env) s := rr rfl
@[simp] theorem xSet_ap {i : Nat} : xSet i a env st = toS (a env st) env fun v s => .ok (.nx (env.set i (some v))) s := rr rfl
@[simp] theorem xAsg_ap : xAsg a tg env st = toS (a env st) env fun v s => match tg v env s with
  | some e => .ok (.nx e) s
  | none => .bad := rr rfl
@[simp] theorem xPar_ap {i j : Nat} : xPar i j f env st = toS (f env st) env fun vs s => match vs with
  | [v, w] => .ok (.nx ((env.set i (some v)).set j (some w))) s
  | _ => .bad := rr rfl
@[simp] theorem xPar3_ap {i j l : Nat} : xPar3 i j l f env st = toS (f env st) env fun vs s => match vs with
  | [v, w, u] => .ok (.nx (((env.set i (some v)).set j (some w)).set l (some u))) s
  | _ => .bad := rr rfl
@[simp] theorem xIf_ap : xIf t x y env st = toS (t env st) env fun k s => if k = true then x env s else y env s := rr rfl
@[simp] theorem xPut_ap {w : SSet} : xPut w a b c env st = toS (a env st) env fun v s => toS (b env s) env fun o s => toS (c env s) env fun i s => match w o i v s with
  | some s' => .ok (.nx env) s'
  | none => .bad := rr rfl
@[simp] theorem xFor_ap : xFor it tg x env st = toS (it env st) env fun xs s => forL tg x xs env s := rr rfl
@[simp] theorem gN_ap {i : Nat} {v : Va} : gN i v env st = some (env.set i (some v)) := rr rfl
@[simp] theorem gsN_ap : gsN [] env st = some env := rr rfl
@[simp] theorem gsC_ap {v : Va} {vs : List Va} : gsC tg ug (v :: vs) env st = (tg v env st).bind fun e => ug vs e st := rr rfl
@[simp] theorem gT_ap {n : Nat} {v : Va} : gT n ug v env st = (itemsV v st).bind fun xs => if xs.length = n then ug xs env st else none := rr rfl
@[simp] theorem add_ii {i j : Int} : oAdd (.d (.int i)) (.d (.int j)) st = some (.d (.int (i + j)), st) := rr rfl
@[simp] theorem sub_ii {i j : Int} : oSub (.d (.int i)) (.d (.int j)) st = some (.d (.int (i - j)), st) := rr rfl
@[simp] theorem lt_ii {i j : Int} : oLt (.d (.int i)) (.d (.int j)) st = some (.d (.bool (decide (i < j))), st) := rr rfl
@[simp] theorem le_ii {i j : Int} : oLe (.d (.int i)) (.d (.int j)) st = some (.d (.bool (decide (i ≤ j))), st) := rr rfl
@[simp] theorem gt_ii {i j : Int} : oGt (.d (.int i)) (.d (.int j)) st = some (.d (.bool (decide (j < i))), st) := rr rfl
@[simp] theorem ge_ii {i j : Int} : oGe (.d (.int i)) (.d (.int j)) st = some (.d (.bool (decide (j ≤ i))), st) := rr rfl
@[simp] theorem eq_ii {i j : Int} : oEq (.d (.int i)) (.d (.int j)) st = some (.d (.bool (decide (i = j))), st) := by
  show (if SeqAt.shaped (.int i) = true ∧ SeqAt.shaped (.int j) = true then some (Va.d (.bool (PyData.eqv (.int i) (.int j))), st) else none) = _
  rw [if_pos ⟨rfl, rfl⟩]
  simp only [PyData.eqv]
  rfl
@[simp] theorem ne_ii {i j : Int} : oNe (.d (.int i)) (.d (.int j)) st = some (.d (.bool (!decide (i = j))), st) := by
  show (if SeqAt.shaped (.int i) = true ∧ SeqAt.shaped (.int j) = true then some (Va.d (.bool (!PyData.eqv (.int i) (.int j))), st) else none) = _
  rw [if_pos ⟨rfl, rfl⟩]
  simp only [PyData.eqv]
  rfl
@[simp] theorem eq_ss {a b : Str} : oEq (.d (.str a)) (.d (.str b)) st = some (.d (.bool (decide (a = b))), st) := rr rfl
@[simp] theorem ne_ss {a b : Str} : oNe (.d (.str a)) (.d (.str b)) st = some (.d (.bool (!decide (a = b))), st) := rr rfl
theorem mul_ii {i j : Int} (h : i.natAbs.log2 + j.natAbs.log2 < 1000000) : oMul (.d (.int i)) (.d (.int j)) st = some (.d (.int (i * j)), st) := if_pos h
theorem div_ii {i j : Int} (h : 0 < j) (h2 : j.natAbs.log2 < 9000) : oDiv (.d (.int i)) (.d (.int j)) st = some (.d (.int (i / j)), st) := if_pos ⟨h, h2⟩
theorem mod_ii {i j : Int} (h : 0 < j) : oMod (.d (.int i)) (.d (.int j)) st = some (.d (.int (i % j)), st) := if_pos h
theorem pow_ii {i j : Int} (h : 0 ≤ j) (h2 : ((i.natAbs.log2 + 1 : Nat) : Int) * j ≤ 134217728) : oPow (.d (.int i)) (.d (.int j)) st = some (.d (.int (i ^ j.toNat)), st) := if_pos ⟨h, h2⟩
theorem shl_ii {i j : Int} (h : 0 ≤ j) (h2 : ((i.natAbs.log2 + 1 : Nat) : Int) + j ≤ 134217728) : oShl (.d (.int i)) (.d (.int j)) st = some (.d (.int (i * 2 ^ j.toNat)), st) := if_pos ⟨h, h2⟩
end
/-- how a def whose objects are dropped answers -/
theorem dF_rt {np ns : Nat} {b : SS} {as : List Va} {st s : Sto} {v : Va} (ha : as.length = np) (hb : b (as.map some ++ List.replicate (ns - np) none) ⟨st.obs, st.n⟩ = .ok (.rt v) s) (hv : v.lt st.n = true) : dF np ns true b as st = .ok v ⟨s.obs.take st.n, st.base⟩ := by
  unfold dF
  rw [if_pos ha]
  simp only [if_true, hb]
  unfold dEnd
  rw [if_pos rfl, if_pos hv]
theorem dF_nx {np ns : Nat} {b : SS} {as : List Va} {st s : Sto} {e : Ev} (ha : as.length = np) (hb : b (as.map some ++ List.replicate (ns - np) none) ⟨st.obs, st.n⟩ = .ok (.nx e) s) : dF np ns true b as st = .ok (.d .none) ⟨s.obs.take st.n, st.base⟩ := by
  unfold dF
  rw [if_pos ha]
  simp only [if_true, hb]
  rfl
theorem dF_rtN {np ns : Nat} {b : SS} {as : List Va} {st s : Sto} {v : Va} (ha : as.length = np) (hb : b (as.map some ++ List.replicate (ns - np) none) st = .ok (.rt v) s) : dF np ns false b as st = .ok v s := by
  unfold dF
  rw [if_pos ha]
  simp only [Bool.false_eq_true, if_false, hb]
  rfl
theorem sto_take (st : Sto) : (⟨st.obs.take st.n, st.base⟩ : Sto) = st := by
  show Sto.mk (st.obs.take st.obs.length) st.base = st
  rw [List.take_length]
/-- a def that writes nothing and makes nothing -/
theorem dF_pure {np ns : Nat} {b : SS} {as : List Va} {st : Sto} {d : PD} (ha : as.length = np) (hb : b (as.map some ++ List.replicate (ns - np) none) ⟨st.obs, st.n⟩ = .ok (.rt (.d d)) ⟨st.obs, st.n⟩) : dF np ns true b as st = .ok (.d d) st := by
  rw [dF_rt ha hb rfl, sto_take]
theorem dF_pureN {np ns : Nat} {b : SS} {as : List Va} {st : Sto} {e : Ev} (ha : as.length = np) (hb : b (as.map some ++ List.replicate (ns - np) none) ⟨st.obs, st.n⟩ = .ok (.nx e) ⟨st.obs, st.n⟩) : dF np ns true b as st = .ok (.d .none) st := by
  rw [dF_nx ha hb, sto_take]

/-! ### loops -/
theorem forL_nil {t : SG} {b : SS} {env : Ev} {st : Sto} : forL t b [] env st = .ok (.nx env) st := rfl
theorem forL_nx {t : SG} {b : SS} {x : Va} {xs : List Va} {env e1 e2 : Ev} {st s : Sto} (h1 : t x env st = some e1) (h2 : b e1 st = .ok (.nx e2) s) : forL t b (x :: xs) env st = forL t b xs e2 s := by
  show (match t x env st with
    | none => Res.bad
    | some e1 => (b e1 st).bind fun o s => match o with
      | .nx e => forL t b xs e s
      | .ct e => forL t b xs e s
      | .bk e => .ok (.nx e) s
      | o => .ok o s) = _
  rw [h1]
  show (b e1 st).bind _ = _
  rw [h2]
  rfl
theorem forL_rt {t : SG} {b : SS} {x : Va} {xs : List Va} {env e1 : Ev} {v : Va} {st s : Sto} (h1 : t x env st = some e1) (h2 : b e1 st = .ok (.rt v) s) : forL t b (x :: xs) env st = .ok (.rt v) s := by
  show (match t x env st with
    | none => Res.bad
    | some e1 => (b e1 st).bind fun o s => match o with
      | .nx e => forL t b xs e s
      | .ct e => forL t b xs e s
      | .bk e => .ok (.nx e) s
      | o => .ok o s) = _
  rw [h1]
  show (b e1 st).bind _ = _
  rw [h2]
  rfl
/-- a loop by an invariant over the items that are left -/
theorem forL_inv {t : SG} {b : SS} (P : List Va → Ev → Sto → Prop) (step : ∀ x xs env st, P (x :: xs) env st → ∃ e1 e2 s, t x env st = some e1 ∧ b e1 st = .ok (.nx e2) s ∧ P xs e2 s) : ∀ xs env st, P xs env st → ∃ e s, forL t b xs env st = .ok (.nx e) s ∧ P [] e s
  | [], env, st, h => ⟨env, st, rfl, h⟩
  | x :: xs, env, st, h => by
    obtain ⟨e1, e2, s, h1, h2, h3⟩ := step x xs env st h
    obtain ⟨e, s', h4, h5⟩ := forL_inv P step xs e2 s h3
    exact ⟨e, s', (forL_nx h1 h2).trans h4, h5⟩
/-- the same over a list comprehension without results -/
theorem lcL_none {t : SG} {c : ST} {e : SE} {env : Ev} (P : List Va → Sto → Prop) (step : ∀ x xs st, P (x :: xs) st → ∃ e1 s, t x env st = some e1 ∧ c e1 st = .ok false s ∧ P xs s) : ∀ xs st, P xs st → ∃ s, lcL t c e env xs st = .ok [] s ∧ P [] s
  | [], st, h => ⟨st, rfl, h⟩
  | x :: xs, st, h => by
    obtain ⟨e1, s, h1, h2, h3⟩ := step x xs st h
    obtain ⟨s', h4, h5⟩ := lcL_none P step xs s h3
    refine ⟨s', ?_, h5⟩
    show (match t x env st with
      | none => Res.bad
      | some e1 => bindN (c e1 st) fun k s => if k = true then bindN (e e1 s) fun v s => (lcL t c e env xs s).bind fun vs s => .ok (v :: vs) s else lcL t c e env xs s) = _
    rw [h1]
    show bindN (c e1 st) _ = _
    rw [h2]
    exact h4

section
variable {st : Sto} {ds : List PD} {xs : List Va}
@[simp] theorem mkT_ap : mkT xs = (match allD xs with
  | some ds => .d (.tuple ds)
  | none => .t xs) := rr rfl
@[simp] theorem allD_nil : allD [] = some [] := rr rfl
@[simp] theorem allD_d {x : PD} : allD (.d x :: xs) = (allD xs).map (x :: ·) := rr rfl
@[simp] theorem items_tup : itemsV (.d (.tuple ds)) st = some (ds.map .d) := rr rfl
@[simp] theorem items_lst : itemsV (.d (.list ds)) st = some (ds.map .d) := rr rfl
@[simp] theorem walk_lst : walkV (.d (.list ds)) = some (ds.map .d) := rr rfl
@[simp] theorem walk_tup : walkV (.d (.tuple ds)) = some (ds.map .d) := rr rfl
@[simp] theorem walk_s {ns : List Int} : walkV (.s ns) = some (ns.map fun n => .d (.int n)) := rr rfl
@[simp] theorem froz_tup : frozQ (.d (.tuple ds)) = some (ds.map .d) := rr rfl
@[simp] theorem froz_lst : frozQ (.d (.list ds)) = some (ds.map .d) := rr rfl
@[simp] theorem tru_bl {b : Bool} : tru (.d (.bool b)) st = some b := rr rfl
@[simp] theorem tru_int {i : Int} : tru (.d (.int i)) st = some (i != 0) := rr rfl
@[simp] theorem tru_no : tru (.d .none) st = some false := rr rfl
@[simp] theorem len_tup : cLen [.d (.tuple ds)] st = some (.d (.int ds.length), st) := by
  show some (Va.d (.int ((ds.map Va.d).length : Nat)), st) = _
  rw [List.length_map]
@[simp] theorem len_lst : cLen [.d (.list ds)] st = some (.d (.int ds.length), st) := by
  show some (Va.d (.int ((ds.map Va.d).length : Nat)), st) = _
  rw [List.length_map]
@[simp] theorem len_s {ns : List Int} : cLen [.s ns] st = some (.d (.int ns.length), st) := by
  show some (Va.d (.int ((ns.map fun n => Va.d (.int n)).length : Nat)), st) = _
  rw [List.length_map]
@[simp] theorem min_ii {i j : Int} : cMin [.d (.int i), .d (.int j)] st = some (.d (.int (if j < i then j else i)), st) := rr rfl
@[simp] theorem max_ii {i j : Int} : cMax [.d (.int i), .d (.int j)] st = some (.d (.int (if j > i then j else i)), st) := rr rfl
@[simp] theorem int_bl {b : Bool} : cInt [.d (.bool b)] st = some (.d (.int (if b = true then 1 else 0)), st) := rr rfl
@[simp] theorem int_in {i : Int} : cInt [.d (.int i)] st = some (.d (.int i), st) := rr rfl
@[simp] theorem tuple_tup : cTup [.d (.tuple ds)] st = some (.d (.tuple ds), st) := rr rfl
@[simp] theorem tuple_lst : cTup [.d (.list ds)] st = some (.d (.tuple ds), st) := rr rfl
@[simp] theorem tyN_int {i : Int} : tyN (.d (.int i)) st = some "int" := rr rfl
@[simp] theorem tyN_tup : tyN (.d (.tuple ds)) st = some "tuple" := rr rfl
@[simp] theorem tyN_str {z : Str} : tyN (.d (.str z)) st = some "str" := rr rfl
@[simp] theorem kit_ib : kitB "int" "bool" = some false := by decide +kernel
@[simp] theorem kit_ii : kitB "int" "int" = some true := by decide +kernel
@[simp] theorem kit_tt : kitB "tuple" "tuple" = some true := by decide +kernel
@[simp] theorem kit_st : kitB "str" "tuple" = some false := by decide +kernel
@[simp] theorem kit_it : kitB "int" "tuple" = some false := by decide +kernel
@[simp] theorem enum_nil {k : Nat} : enumL k [] = [] := rr rfl
@[simp] theorem enum_cons {k : Nat} {x : Va} : enumL k (x :: xs) = mkT [.d (.int (k : Nat)), x] :: enumL (k + 1) xs := rr rfl
theorem ix_tupN {k : Nat} {v : PD} (h : ds[k]? = some v) : oIx (.d (.tuple ds)) (.d (.int (k : Nat))) st = some (.d v, st) := by
  show (itemsV (.d (.tuple ds)) st).bind (fun xs => (atI xs (k : Nat)).map fun v => (v, st)) = _
  rw [items_tup, Option.bind_some, atI_nat (j := k) (v := .d v) (by rw [List.getElem?_map, h]; rfl)]
  rfl
theorem ix_lstN {k : Nat} {v : PD} (h : ds[k]? = some v) : oIx (.d (.list ds)) (.d (.int (k : Nat))) st = some (.d v, st) := by
  show (itemsV (.d (.list ds)) st).bind (fun xs => (atI xs (k : Nat)).map fun v => (v, st)) = _
  rw [items_lst, Option.bind_some, atI_nat (j := k) (v := .d v) (by rw [List.getElem?_map, h]; rfl)]
  rfl
theorem repr_d {d : PD} (h : Shw d) (q : seqD d = true) : cRepr [.d d] st = some (.d (.str d.shown), st) := by
  show (if seqD d = true ∧ Shw d then some (Va.d (.str d.shown), st) else none) = _
  rw [if_pos ⟨q, h⟩]
@[simp] theorem for_nil {t : SG} {b : SS} {env : Ev} : forL t b [] env st = .ok (.nx env) st := rr rfl
theorem for_cons {t : SG} {b : SS} {x : Va} {env : Ev} : forL t b (x :: xs) env st = (match t x env st with
  | none => .bad
  | some e1 => (b e1 st).bind fun o s => match o with
    | .nx e => forL t b xs e s
    | .ct e => forL t b xs e s
    | .bk e => .ok (.nx e) s
    | o => .ok o s) := rr rfl
end
/-! ### stores -/
def At (st : Sto) (i : Nat) (xs : List Va) : Prop := st.obs[i]? = some (some (.l xs))
/-- nothing but i changed, more may be there -/
structure Grow (i : Nat) (st s : Sto) : Prop where
  le : st.n ≤ s.n
  eq : ∀ j, j < st.n → j ≠ i → s.obs[j]? = st.obs[j]?
theorem Grow.refl {i : Nat} {st : Sto} : Grow i st st := ⟨Nat.le_refl _, fun _ _ _ => rfl⟩
theorem Grow.trans {i : Nat} {a b c : Sto} (h : Grow i a b) (g : Grow i b c) : Grow i a c := ⟨Nat.le_trans h.le g.le, fun j hj hn => (g.eq j (Nat.lt_of_lt_of_le hj h.le) hn).trans (h.eq j hj hn)⟩
theorem At.lt {st : Sto} {i : Nat} {xs : List Va} (h : At st i xs) : i < st.n := (List.getElem?_eq_some_iff.mp h).1
theorem At.put {st : Sto} {i : Nat} {xs ys : List Va} (h : At st i xs) : At (st.put i (.l ys)) i ys := by
  show (st.obs.set i (some (.l ys)))[i]? = _
  rw [List.getElem?_set_self h.lt]
theorem Grow.put {st : Sto} {i : Nat} {o : Ob} : Grow i st (st.put i o) := ⟨by show st.obs.length ≤ (st.obs.set i (some o)).length; rw [List.length_set]; exact Nat.le_refl _, fun j hj hn => by
  show (st.obs.set i (some o))[j]? = _
  rw [List.getElem?_set_ne (Ne.symm hn)]⟩
theorem At.grow {i j : Nat} {st s : Sto} {xs : List Va} (h : At st j xs) (g : Grow i st s) (hn : j ≠ i) : At s j xs := (g.eq j h.lt hn).trans h
theorem At.cut {st s : Sto} {i : Nat} {xs : List Va} (h : At s i xs) (hi : i < st.n) : At ⟨s.obs.take st.n, st.base⟩ i xs := by
  show (s.obs.take st.n)[i]? = _
  rw [List.getElem?_take_of_lt hi]
  exact h
theorem Grow.cut {st s : Sto} {i : Nat} (g : Grow i ⟨st.obs, st.n⟩ s) : Grow i st ⟨s.obs.take st.n, st.base⟩ := by
  have hl : (s.obs.take st.n).length = st.n := by rw [List.length_take]; exact Nat.min_eq_left g.le
  refine ⟨Nat.le_of_eq hl.symm, fun j hj hn => ?_⟩
  show (s.obs.take st.n)[j]? = _
  rw [List.getElem?_take_of_lt hj]
  exact g.eq j hj hn
theorem Grow.push {st : Sto} {i : Nat} {o : Ob} : Grow i st (st.push o) := ⟨by show st.obs.length ≤ (st.obs ++ [some o]).length; rw [List.length_append]; omega, fun j hj _ => by
  show (st.obs ++ [some o])[j]? = _
  rw [List.getElem?_append_left hj]⟩
theorem At.push {st : Sto} {xs : List Va} : At (st.push (.l xs)) st.n xs := by
  show (st.obs ++ [some (Ob.l xs)])[st.obs.length]? = _
  rw [List.getElem?_append_right (Nat.le_refl _), Nat.sub_self]
  rfl
theorem At.pushed {st : Sto} {i : Nat} {xs : List Va} {o : Ob} (h : At st i xs) : At (st.push o) i xs := by
  show (st.obs ++ [some o])[i]? = _
  rw [List.getElem?_append_left h.lt]
  exact h
theorem ix_at {st : Sto} {i : Nat} {xs : List Va} {k : Int} {v : Va} (h : At st i xs) (e : atI xs k = some v) : oIx (.r i) (.d (.int k)) st = some (v, st) := by
  show (itemsV (.r i) st).bind (fun xs => (atI xs k).map fun v => (v, st)) = _
  unfold itemsV
  dsimp only
  rw [show st.obs[i]? = some (some (.l xs)) from h]
  show (atI xs k).map _ = _
  rw [e]
  rfl
theorem set_at {st : Sto} {i j : Nat} {xs : List Va} {k : Int} {d : PD} (h : At st i xs) (e : ixN xs.length k = some j) : wLst (.r i) (.d (.int k)) (.d d) st = some (st.put i (.l (xs.set j (.d d)))) := by
  unfold wLst
  dsimp only
  rw [show st.obs[i]? = some (some (.l xs)) from h]
  dsimp only
  rw [e]
  rfl
theorem tyo_at {st : Sto} {i : Nat} {xs : List Va} (h : At st i xs) : tyo (.r i) st = .lst := by
  unfold tyo
  dsimp only
  rw [show st.obs[i]? = some (some (.l xs)) from h]
theorem app_at {st : Sto} {i : Nat} {xs : List Va} {d : PD} (h : At st i xs) (e : xs.length < sizeLine) : gApp (.r i) [.d d] st = some (.d .none, st.put i (.l (xs ++ [.d d]))) := by
  unfold gApp
  dsimp only
  rw [show st.obs[i]? = some (some (.l xs)) from h]
  dsimp only
  rw [if_pos ⟨e, rfl⟩]
theorem log2_lt {n k : Nat} (h : n < 2 ^ (k + 1)) : n.log2 < k + 1 := by
  by_cases h0 : n = 0
  · have e : n.log2 = 0 := by rw [h0]; rfl
    rw [e]
    exact Nat.succ_pos k
  · exact (Nat.log2_lt h0).mpr h
theorem nlog {i : Int} {k : Nat} (h0 : 0 ≤ i) (h : i < 2 ^ (k + 1)) : i.natAbs.log2 < k + 1 := by
  refine log2_lt ?_
  have : (i.natAbs : Int) < ((2 ^ (k + 1) : Nat) : Int) := by
    rw [Int.natAbs_of_nonneg h0]
    simpa using h
  exact Int.ofNat_lt.mp this
theorem mul_sm {st : Sto} {i j : Int} (h0 : 0 ≤ i) (h : i < 2 ^ 250) (h1 : 0 ≤ j) (h2 : j < 2 ^ 250) : oMul (.d (.int i)) (.d (.int j)) st = some (.d (.int (i * j)), st) := mul_ii (by
  have a := nlog (k := 249) h0 h
  have b := nlog (k := 249) h1 h2
  omega)
theorem pow3_sm {st : Sto} {i : Int} (h0 : 0 ≤ i) (h : i < 2 ^ 250) : oPow (.d (.int i)) (.d (.int 3)) st = some (.d (.int (i ^ 3)), st) := pow_ii (by decide) (by
  have a := nlog (k := 249) h0 h
  omega)
/-- a law's source of numbers: b more draws may be made -/
structure Rng (st : Sto) (i b : Nat) : Prop where
  ex : ∃ D S C : Int, At st i [.d (.int D), .d (.int S), .d (.int C)] ∧ 0 ≤ D ∧ 0 ≤ S ∧ S < 2 ^ 62 ∧ 0 ≤ C ∧ C + b ≤ 2 ^ 50
theorem Rng.less {st : Sto} {i b b' : Nat} (h : Rng st i b) (l : b' ≤ b) : Rng st i b' := by
  obtain ⟨D, S, C, h1, h2, h3, h4, h5, h6⟩ := h.ex
  exact ⟨D, S, C, h1, h2, h3, h4, h5, by omega⟩
theorem Rng.lt {st : Sto} {i b : Nat} (h : Rng st i b) : i < st.n := let ⟨_, _, _, h1, _⟩ := h.ex; h1.lt
theorem Rng.push {st : Sto} {i b : Nat} {o : Ob} (h : Rng st i b) : Rng (st.push o) i b := by
  obtain ⟨D, S, C, h1, h2⟩ := h.ex
  exact ⟨D, S, C, h1.pushed, h2⟩
theorem Rng.cut {st s : Sto} {i b : Nat} (h : Rng s i b) (hi : i < st.n) : Rng ⟨s.obs.take st.n, st.base⟩ i b := by
  obtain ⟨D, S, C, h1, h2⟩ := h.ex
  exact ⟨D, S, C, h1.cut hi, h2⟩
theorem Rng.put {st : Sto} {i j b : Nat} {o : Ob} (h : Rng st i b) (hn : i ≠ j) : Rng (st.put j o) i b := by
  obtain ⟨D, S, C, h1, h2⟩ := h.ex
  exact ⟨D, S, C, h1.grow Grow.put hn, h2⟩
theorem Rng.in {st : Sto} {i b n : Nat} (h : Rng st i b) : Rng ⟨st.obs, n⟩ i b := let ⟨D, S, C, h1, h2⟩ := h.ex; ⟨D, S, C, h1, h2⟩
/-- what a draw answers -/
def DrawSp (F : FS) : Prop := ∀ (st : Sto) (i b : Nat) (lim : Int), Rng st i (b + 1) → 0 < lim → lim < 2 ^ 250 → ∃ v s, F [.r i, .d (.int lim)] st = .ok (.d (.int v)) s ∧ 0 ≤ v ∧ v < lim ∧ Grow i st s ∧ Rng s i b
theorem xSeq_nx {x y : SS} {env e : Ev} {st s : Sto} {r : Res Out} (h1 : x env st = .ok (.nx e) s) (h2 : y e s = r) : xSeq x y env st = r := by
  rw [xSeq_ap, h1]
  exact h2
theorem add_at {st : Sto} {i : Nat} {xs ys : List PD} (h : At st i (xs.map .d)) (hz : xs.length + ys.length ≤ sizeLine) : oAdd (.r i) (.d (.list ys)) st = some (.d (.list (xs ++ ys)), st) := by
  have e : peekL (.r i) st = some xs := by
    unfold peekL
    dsimp only
    rw [show st.obs[i]? = some (some (.l (xs.map .d))) from h]
    exact allD_map xs
  show (match peekL (.r i) st, peekL (.d (.list ys)) st with
    | some xs, some ys => if xs.length + ys.length ≤ sizeLine then some (Va.d (.list (xs ++ ys)), st) else none
    | _, _ => none) = _
  rw [e]
  exact if_pos hz
theorem tup_at {st : Sto} {i : Nat} {xs : List PD} (h : At st i (xs.map .d)) : cTup [.r i] st = some (.d (.tuple xs), st) := by
  unfold cTup
  dsimp only
  rw [show st.obs[i]? = some (some (.l (xs.map .d))) from h]
  show some (mkT (xs.map .d), st) = _
  unfold mkT
  rw [allD_map]
theorem appD_at {st : Sto} {i : Nat} {xs : List PD} {d : PD} (h : At st i (xs.map .d)) (e : xs.length < sizeLine) : gApp (.r i) [.d d] st = some (.d .none, st.put i (.l ((xs ++ [d]).map .d))) := by
  rw [app_at h (by rw [List.length_map]; exact e), List.map_append]
  rfl
theorem At.putD {st : Sto} {i : Nat} {xs ys : List PD} (h : At st i (xs.map .d)) : At (st.put i (.l (ys.map .d))) i (ys.map .d) := At.put h
theorem same_lst {st : Sto} {i : Nat} {xs : List Va} (h : At st i xs) : Ty.same (tyo (.r i) st) .lst = true := by
  rw [tyo_at h]
  rfl
end Vi

set_option maxHeartbeats 1000000
/-! ViM: for the laws: what repr takes, by the ints in it. -/
namespace Vi
open PySem PySem.Spec PyProof.Rows L2
mutual
/-- all ints are below 10^100 -/
def AllI : PD → Prop
  | .int i => i.natAbs < 10 ^ 100
  | .list xs => AllIs xs
  | .tuple xs => AllIs xs
  | _ => True
def AllIs : List PD → Prop
  | [] => True
  | x :: xs => AllI x ∧ AllIs xs
end
mutual
/-- how much it is, the ints' size apart -/
def cntD : PD → Nat
  | .str x => x.cps.size
  | .int _ => 1
  | .list xs => cntDs xs
  | .tuple xs => cntDs xs
  | _ => 0
def cntDs : List PD → Nat
  | [] => 0
  | x :: xs => cntD x + 1 + cntDs xs
end
theorem log57 {i : Int} (h : i.natAbs < 10 ^ 100) : i.natAbs.log2 < 340 := log2_lt (k := 339) (Nat.lt_trans h (by decide))
mutual
theorem wt_le : ∀ d : PD, AllI d → PyData.canLay0 d = true → PyData.weight d ≤ 400 * cntD d
  | .none, _, _ => by simp only [PyData.weight]; omega
  | .bool _, _, _ => by simp only [PyData.weight]; omega
  | .int i, h, _ => by
    have := log57 (by simpa only [AllI] using h)
    simp only [PyData.weight, cntD]
    split <;> omega
  | .str x, _, _ => by simp only [PyData.weight, cntD]; omega
  | .list xs, h, c => by
    simp only [PyData.weight, cntD]
    exact wts_le xs (by simpa only [AllI] using h) (by simpa only [PyData.canLay0] using c)
  | .tuple xs, h, c => by
    simp only [PyData.weight, cntD]
    exact wts_le xs (by simpa only [AllI] using h) (by simpa only [PyData.canLay0] using c)
  | .dict _, _, c => by simp only [PyData.canLay0] at c; exact nomatch c
theorem wts_le : ∀ ds : List PD, AllIs ds → PyData.canLayAll0 ds = true → PyData.weightAll ds ≤ 400 * cntDs ds
  | [], _, _ => by simp only [PyData.weightAll]; omega
  | d :: ds, h, c => by
    obtain ⟨h1, h2⟩ : AllI d ∧ AllIs ds := by simpa only [AllIs] using h
    obtain ⟨c1, c2⟩ : d.canLay0 = true ∧ PyData.canLayAll0 ds = true := by simpa only [PyData.canLayAll0, Bool.and_eq_true] using c
    have a := wt_le d h1 c1
    have b := wts_le ds h2 c2
    simp only [PyData.weightAll, cntDs]
    omega
end
mutual
theorem ish_of : ∀ d : PD, AllI d → PyData.intsShort 110 d = true
  | .none, _ => by simp only [PyData.intsShort]
  | .bool _, _ => by simp only [PyData.intsShort]
  | .int i, h => by
    have e := int_text_length_le10 (a := i) (k := 100) (by decide) (by simpa only [AllI] using h)
    simp only [PyData.intsShort, decide_eq_true_eq]
    show (Str.ofString (toString i)).length ≤ 110
    rw [PySem.ofString_length]
    omega
  | .str x, _ => by simp only [PyData.intsShort]
  | .list xs, h => by
    simp only [PyData.intsShort]
    exact ishs_of xs (by simpa only [AllI] using h)
  | .tuple xs, h => by
    simp only [PyData.intsShort]
    exact ishs_of xs (by simpa only [AllI] using h)
  | .dict _, _ => by simp only [PyData.intsShort]
theorem ishs_of : ∀ ds : List PD, AllIs ds → PyData.intsShortAll 110 ds = true
  | [], _ => by simp only [PyData.intsShortAll]
  | d :: ds, h => by
    obtain ⟨h1, h2⟩ : AllI d ∧ AllIs ds := by simpa only [AllIs] using h
    simp only [PyData.intsShortAll, ish_of d h1, ishs_of ds h2, Bool.and_self]
end
mutual
theorem shb_of : ∀ d : PD, AllI d → PyData.canLay0 d = true → PyData.showable d = true
  | .none, _, _ => by simp only [PyData.showable]
  | .bool _, _, _ => by simp only [PyData.showable]
  | .int i, h, _ => by
    have := log57 (by simpa only [AllI] using h)
    simp only [PyData.showable, decide_eq_true_eq]
    omega
  | .str x, _, _ => by simp only [PyData.showable]
  | .list xs, h, c => by
    simp only [PyData.showable]
    exact shbs_of xs (by simpa only [AllI] using h) (by simpa only [PyData.canLay0] using c)
  | .tuple xs, h, c => by
    simp only [PyData.showable]
    exact shbs_of xs (by simpa only [AllI] using h) (by simpa only [PyData.canLay0] using c)
  | .dict _, _, c => by simp only [PyData.canLay0] at c; exact nomatch c
theorem shbs_of : ∀ ds : List PD, AllIs ds → PyData.canLayAll0 ds = true → PyData.showableAll ds = true
  | [], _, _ => by simp only [PyData.showableAll]
  | d :: ds, h, c => by
    obtain ⟨h1, h2⟩ : AllI d ∧ AllIs ds := by simpa only [AllIs] using h
    obtain ⟨c1, c2⟩ : d.canLay0 = true ∧ PyData.canLayAll0 ds = true := by simpa only [PyData.canLayAll0, Bool.and_eq_true] using c
    simp only [PyData.showableAll, shb_of d h1 c1, shbs_of ds h2 c2, Bool.and_self]
end
mutual
theorem nod_of : ∀ d : PD, PyData.canLay0 d = true → PyData.hasDict d = false
  | .none, _ => by simp only [PyData.hasDict]
  | .bool _, _ => by simp only [PyData.hasDict]
  | .int i, _ => by simp only [PyData.hasDict]
  | .str x, _ => by simp only [PyData.hasDict]
  | .list xs, c => by
    simp only [PyData.hasDict]
    exact nods_of xs (by simpa only [PyData.canLay0] using c)
  | .tuple xs, c => by
    simp only [PyData.hasDict]
    exact nods_of xs (by simpa only [PyData.canLay0] using c)
  | .dict _, c => by simp only [PyData.canLay0] at c; exact nomatch c
theorem nods_of : ∀ ds : List PD, PyData.canLayAll0 ds = true → PyData.hasDictAll ds = false
  | [], _ => by simp only [PyData.hasDictAll]
  | d :: ds, c => by
    obtain ⟨c1, c2⟩ : d.canLay0 = true ∧ PyData.canLayAll0 ds = true := by simpa only [PyData.canLayAll0, Bool.and_eq_true] using c
    simp only [PyData.hasDictAll, nod_of d c1, nods_of ds c2, Bool.or_self]
end
/-- what may be shown: no great ints, not too much of it -/
theorem shw_any {d : PD} (h : AllI d) (c : PyData.canLay0 d = true) (hd : PyData.depth d ≤ 64) (hn : cntD d ≤ 300) : Shw d := by
  have w := wt_le d h c
  have l := PyData.shown_le 110 (by decide) d (PyData.leavesShort_of_canLay0 110 d c (ish_of d h))
  have : sizeLine = 16777216 := by decide
  exact ⟨c, shb_of d h c, nod_of d c, hd, by omega⟩
end Vi

set_option maxHeartbeats 4000000
namespace K44
open PySem PySem.Spec PyProof.Rows L2 Vi
def top (i : Nat) : Stmt := PySem.Challenge.pw_castforms_k44_mixed_comparisons_by_tryin.main.body.getD i (.Pass ⟨0, 0, 0, 0⟩)
def k_FEWEST : PD := (.int 2)
def k_INT : PD := (.int 2)
def k_MOST : PD := (.int 128)
def k_RANKS : List (Str × PD) := [("char", (.int 0)), ("schar", (.int 0)), ("uchar", (.int 0)), ("short", (.int 1)), ("ushort", (.int 1)), ("int", (.int 2)), ("uint", (.int 2)), ("long", (.int 3)), ("ulong", (.int 3)), ("wide", (.int 4)), ("uwide", (.int 4))]
def k_SIGNED : List (Int × PD) := [(2, (.str "int")), (3, (.str "long")), (4, (.str "wide"))]
def k_UNSIGNED : List (Int × PD) := [(2, (.str "uint")), (3, (.str "ulong")), (4, (.str "uwide"))]
def k_WIDTHS : PD := (.int 5)
structure Ctx (P : Program) (w : World) (K : PySem.W.Frag) (mg : Str → Option Value) : Prop where
  d__law_pool : ∃ f fd, Fun K "_law_pool" "_law_pool" (top 29) f fd ∧ mg "_law_pool" = some (.ref f)
  d__law_draw : ∃ f fd, Fun K "_law_draw" "_law_draw" (top 30) f fd ∧ mg "_law_draw" = some (.ref f)
  d__law_kinds : ∃ f fd, Fun K "_law_kinds" "_law_kinds" (top 31) f fd ∧ mg "_law_kinds" = some (.ref f)
  d__law_bits : ∃ f fd, Fun K "_law_bits" "_law_bits" (top 33) f fd ∧ mg "_law_bits" = some (.ref f)
  d__law_is_unsigned : ∃ f fd, Fun K "_law_is_unsigned" "_law_is_unsigned" (top 34) f fd ∧ mg "_law_is_unsigned" = some (.ref f)
  d__law_ends : ∃ f fd, Fun K "_law_ends" "_law_ends" (top 35) f fd ∧ mg "_law_ends" = some (.ref f)
  d__law_common : ∃ f fd, Fun K "_law_common" "_law_common" (top 38) f fd ∧ mg "_law_common" = some (.ref f)
  d__law_into : ∃ f fd, Fun K "_law_into" "_law_into" (top 37) f fd ∧ mg "_law_into" = some (.ref f)
  d__law_tried : ∃ f fd, Fun K "_law_tried" "_law_tried" (top 39) f fd ∧ mg "_law_tried" = some (.ref f)
  d_check_widths : ∃ f fd, Fun K "check_widths" "check_widths" (top 12) f fd ∧ mg "check_widths" = some (.ref f)
  d_check_model : ∃ f fd, Fun K "check_model" "check_model" (top 13) f fd ∧ mg "check_model" = some (.ref f)
  d_check_kind : ∃ f fd, Fun K "check_kind" "check_kind" (top 14) f fd ∧ mg "check_kind" = some (.ref f)
  d_check_pair : ∃ f fd, Fun K "check_pair" "check_pair" (top 23) f fd ∧ mg "check_pair" = some (.ref f)
  d_bits : ∃ f fd, Fun K "bits" "bits" (top 16) f fd ∧ mg "bits" = some (.ref f)
  d_is_signed : ∃ f fd, Fun K "is_signed" "is_signed" (top 15) f fd ∧ mg "is_signed" = some (.ref f)
  d_limits_in : ∃ f fd, Fun K "limits_in" "limits_in" (top 17) f fd ∧ mg "limits_in" = some (.ref f)
  d_held : ∃ f fd, Fun K "held" "held" (top 18) f fd ∧ mg "held" = some (.ref f)
  d_promoted_in : ∃ f fd, Fun K "promoted_in" "promoted_in" (top 19) f fd ∧ mg "promoted_in" = some (.ref f)
  d_common_in : ∃ f fd, Fun K "common_in" "common_in" (top 20) f fd ∧ mg "common_in" = some (.ref f)
  d_is_wrong : ∃ f fd, Fun K "is_wrong" "is_wrong" (top 24) f fd ∧ mg "is_wrong" = some (.ref f)
  d_first_wrong : ∃ f fd, Fun K "first_wrong" "first_wrong" (top 27) f fd ∧ mg "first_wrong" = some (.ref f)
  d_into : ∃ f fd, Fun K "into" "into" (top 21) f fd ∧ mg "into" = some (.ref f)
  d_count_under : ∃ f fd, Fun K "count_under" "count_under" (top 25) f fd ∧ mg "count_under" = some (.ref f)
  d_count_wrong : ∃ f fd, Fun K "count_wrong" "count_wrong" (top 26) f fd ∧ mg "count_wrong" = some (.ref f)
  d__law_right : ∃ f fd, Fun K "_law_right" "_law_right" (top 40) f fd ∧ mg "_law_right" = some (.ref f)
  d_law : ∃ f fd, Fun K "law" "law" (top 41) f fd ∧ mg "law" = some (.ref f)
  n_abs : mg "abs" = none
  n_enumerate : mg "enumerate" = none
  n_int : mg "int" = none
  n_len : mg "len" = none
  n_max : mg "max" = none
  n_min : mg "min" = none
  n_range : mg "range" = none
  n_repr : mg "repr" = none
  n_sorted : mg "sorted" = none
  n_tuple : mg "tuple" = none
  c_FEWEST : Cst K mg "FEWEST" k_FEWEST
  c_INT : Cst K mg "INT" k_INT
  c_MOST : Cst K mg "MOST" k_MOST
  t_RANKS : TabN K w mg "RANKS" k_RANKS
  t_SIGNED : TabNI K mg "SIGNED" k_SIGNED
  t_UNSIGNED : TabNI K mg "UNSIGNED" k_UNSIGNED
  c_WIDTHS : Cst K mg "WIDTHS" k_WIDTHS

def N__law_pool : List Str := ["script", "at", "cell"]
def b__law_pool : SS := xSeq (xSet 2 (sK (.int 0))) (xSeq (xIf (tB (s2 oLt (sV 1) (sCl cLen (aCons (sV 0) (aNil))))) (xSet 2 (s2 oIx (sV 0) (sV 1))) (xNil)) (xRet (sLstM (aCons (sCl cMax (aCons (sK (.int 0)) (aCons (s2 oSub (sCl cAbs (aCons (sV 2) (aNil))) (s2 oPow (sK (.int 10)) (sK (.int 18)))) (aNil)))) (aCons (s2 oAdd (s2 oMod (sV 2) (sK (.int 2305843009213693951))) (s2 oMul (sK (.int 2976221207)) (s2 oAdd (sV 1) (sK (.int 1))))) (aCons (sK (.int 0)) (aNil)))))))
def F__law_pool : FS := dF 2 3 false b__law_pool
theorem bp__law_pool : BindP "_law_pool" (top 29) ["script", "at"] := fun _ _ _ _ _ _ us hl => match us, hl with | [_, _], _ => rfl
theorem sc__law_pool : FnScope N__law_pool ["script", "at"] (defScope (top 29)) := ⟨rfl, rfl, rfl, by decide +kernel, rfl, by decide +kernel, by decide +kernel⟩
theorem g__law_pool {P : Program} {w : World} {K : PySem.W.Frag} {mg : Str → Option Value} {base : Heap} {f : Addr} {fd : FuncData} (c : Ctx P w K mg) (hF : Fun K "_law_pool" "_law_pool" (top 29) f fd) : FnG P w K mg base 1 f fd ["script", "at"] (spF K 2 F__law_pool) := by
  have nd := sc__law_pool.nd
  exact fng_of (k := 0) hF sc__law_pool rfl rfl fun cd A outer s H E B =>
    jb_cons (js_set (i := 2) nd (je_int)) (jb_cons (js_if (jt_cmp jop_lt (je_v 1) (je_cB jc_len rfl c.n_len (by decide +kernel) (ja_cons (je_v 0) (ja_nil))) (nomark _)) (jb_one (js_set (i := 2) nd (je_ix ix_all (je_v 0) (je_v 1) (fun _ _ => rfl)))) (jb_nil)) (jb_one (js_ret (je_lstM (ja_cons (je_cB (jc_max (Bd.fit B)) rfl c.n_max (by decide +kernel) (ja_cons (je_int) (ja_cons (je_2 jop_sub (je_cB jc_abs rfl c.n_abs (by decide +kernel) (ja_cons (je_v 2) (ja_nil))) (je_2 jop_pow (je_int) (je_int))) (ja_nil)))) (ja_cons (je_2 jop_add (je_2 jop_mod (je_v 2) (je_int)) (je_2 jop_mul (je_int) (je_2 jop_add (je_v 1) (je_int)))) (ja_cons (je_int) (ja_nil))))))))
theorem t__law_pool {P : Program} {w : World} {K : PySem.W.Frag} {mg : Str → Option Value} {base : Heap} (c : Ctx P w K mg) : FnT P w K mg base 1 "_law_pool" ["script", "at"] (top 29) F__law_pool := by
  obtain ⟨f, fd, hF, hm⟩ := c.d__law_pool
  exact ⟨⟨f, fd, hF, hm, g__law_pool c hF⟩, fun as s h => if_neg h⟩

def N__law_draw : List Str := ["pool", "many", "drawn", "mixed"]
def b__law_draw : SS := xSeq (xIf (tB (s2 oGt (s2 oIx (sV 0) (sK (.int 0))) (sK (.int 0)))) (xSeq (xSet 2 (s2 oMod (s2 oIx (sV 0) (sK (.int 0))) (sV 1))) (xSeq (xPut wLst (s2 oDiv (s2 oIx (sV 0) (sK (.int 0))) (sV 1)) (sV 0) (sK (.int 0))) (xRet (sV 2)))) (xNil)) (xSeq (xPut wLst (s2 oAdd (s2 oIx (sV 0) (sK (.int 2))) (sK (.int 1))) (sV 0) (sK (.int 2))) (xSeq (xSet 3 (s2 oMod (s2 oPow (s2 oAdd (s2 oIx (sV 0) (sK (.int 1))) (s2 oMul (sK (.int 15487039)) (s2 oIx (sV 0) (sK (.int 2))))) (sK (.int 3))) (sK (.int 162259276829213363391578010288127)))) (xSeq (xSet 3 (s2 oMod (s2 oPow (s2 oAdd (sV 3) (s2 oMul (sK (.int 32452867)) (s2 oIx (sV 0) (sK (.int 2))))) (sK (.int 5))) (sK (.int 170141183460469231731687303715884105727)))) (xRet (s2 oMod (s2 oDiv (sV 3) (sK (.int 1048576))) (sV 1))))))
def F__law_draw : FS := dF 2 4 true b__law_draw
theorem bp__law_draw : BindP "_law_draw" (top 30) ["pool", "many"] := fun _ _ _ _ _ _ us hl => match us, hl with | [_, _], _ => rfl
theorem sc__law_draw : FnScope N__law_draw ["pool", "many"] (defScope (top 30)) := ⟨rfl, rfl, rfl, by decide +kernel, rfl, by decide +kernel, by decide +kernel⟩
theorem g__law_draw {P : Program} {w : World} {K : PySem.W.Frag} {mg : Str → Option Value} {base : Heap} {f : Addr} {fd : FuncData} (c : Ctx P w K mg) (hF : Fun K "_law_draw" "_law_draw" (top 30) f fd) : FnG P w K mg base 1 f fd ["pool", "many"] (spF K 2 F__law_draw) := by
  have nd := sc__law_draw.nd
  exact fng_of (k := 0) hF sc__law_draw rfl rfl fun cd A outer s H E B =>
    jb_cons (js_if (jt_cmp jop_gt (je_ix ix_all (je_v 0) (je_int) (fun _ _ => rfl)) (je_int) (nomark _)) (jb_cons (js_set (i := 2) nd (je_2 jop_mod (je_ix ix_all (je_v 0) (je_int) (fun _ _ => rfl)) (je_v 1))) (jb_cons (js_put jset_lst (je_2 jop_div (je_ix ix_all (je_v 0) (je_int) (fun _ _ => rfl)) (je_v 1)) (je_v 0) (je_int)) (jb_one (js_ret (je_v 2))))) (jb_nil)) (jb_cons (js_put jset_lst (je_2 jop_add (je_ix ix_all (je_v 0) (je_int) (fun _ _ => rfl)) (je_int)) (je_v 0) (je_int)) (jb_cons (js_set (i := 3) nd (je_2 jop_mod (je_2 jop_pow (je_2 jop_add (je_ix ix_all (je_v 0) (je_int) (fun _ _ => rfl)) (je_2 jop_mul (je_int) (je_ix ix_all (je_v 0) (je_int) (fun _ _ => rfl)))) (je_int)) (je_int))) (jb_cons (js_set (i := 3) nd (je_2 jop_mod (je_2 jop_pow (je_2 jop_add (je_v 3) (je_2 jop_mul (je_int) (je_ix ix_all (je_v 0) (je_int) (fun _ _ => rfl)))) (je_int)) (je_int))) (jb_one (js_ret (je_2 jop_mod (je_2 jop_div (je_v 3) (je_int)) (je_v 1)))))))
theorem t__law_draw {P : Program} {w : World} {K : PySem.W.Frag} {mg : Str → Option Value} {base : Heap} (c : Ctx P w K mg) : FnT P w K mg base 1 "_law_draw" ["pool", "many"] (top 30) F__law_draw := by
  obtain ⟨f, fd, hF, hm⟩ := c.d__law_draw
  exact ⟨⟨f, fd, hF, hm, g__law_draw c hF⟩, fun as s h => if_neg h⟩

def N__law_kinds : List Str := []
def b__law_kinds : SS := xRet (sLst (aCons (sK (.str "char")) (aCons (sK (.str "schar")) (aCons (sK (.str "uchar")) (aCons (sK (.str "short")) (aCons (sK (.str "ushort")) (aCons (sK (.str "int")) (aCons (sK (.str "uint")) (aCons (sK (.str "long")) (aCons (sK (.str "ulong")) (aCons (sK (.str "wide")) (aCons (sK (.str "uwide")) (aNil)))))))))))))
def F__law_kinds : FS := dF 0 0 true b__law_kinds
theorem bp__law_kinds : BindP "_law_kinds" (top 31) [] := fun _ _ _ _ _ _ us hl => match us, hl with | [], _ => rfl
theorem sc__law_kinds : FnScope N__law_kinds [] (defScope (top 31)) := ⟨rfl, rfl, rfl, by decide +kernel, rfl, by decide +kernel, by decide +kernel⟩
theorem g__law_kinds {P : Program} {w : World} {K : PySem.W.Frag} {mg : Str → Option Value} {base : Heap} {f : Addr} {fd : FuncData} (c : Ctx P w K mg) (hF : Fun K "_law_kinds" "_law_kinds" (top 31) f fd) : FnG P w K mg base 1 f fd [] (spF K 0 F__law_kinds) := by
  have nd := sc__law_kinds.nd
  exact fng_of (k := 0) hF sc__law_kinds rfl rfl fun cd A outer s H E B =>
    jb_one (js_ret (je_lst (ja_cons (je_str) (ja_cons (je_str) (ja_cons (je_str) (ja_cons (je_str) (ja_cons (je_str) (ja_cons (je_str) (ja_cons (je_str) (ja_cons (je_str) (ja_cons (je_str) (ja_cons (je_str) (ja_cons (je_str) (ja_nil))))))))))))))
theorem t__law_kinds {P : Program} {w : World} {K : PySem.W.Frag} {mg : Str → Option Value} {base : Heap} (c : Ctx P w K mg) : FnT P w K mg base 1 "_law_kinds" [] (top 31) F__law_kinds := by
  obtain ⟨f, fd, hF, hm⟩ := c.d__law_kinds
  exact ⟨⟨f, fd, hF, hm, g__law_kinds c hF⟩, fun as s h => if_neg h⟩

def N__law_bits : List Str := ["book", "kind"]
def b__law_bits : SS := xRet (s2 oIx (s2 oIx (sV 0) (sK (.int 0))) (s2 oIx (sLst (aCons (sK (.int 0)) (aCons (sK (.int 0)) (aCons (sK (.int 0)) (aCons (sK (.int 1)) (aCons (sK (.int 1)) (aCons (sK (.int 2)) (aCons (sK (.int 2)) (aCons (sK (.int 3)) (aCons (sK (.int 3)) (aCons (sK (.int 4)) (aCons (sK (.int 4)) (aNil))))))))))))) (sMt .lst gIdx (sF F__law_kinds aNil) (aCons (sV 1) (aNil)))))
def F__law_bits : FS := dF 2 2 true b__law_bits
theorem bp__law_bits : BindP "_law_bits" (top 33) ["book", "kind"] := fun _ _ _ _ _ _ us hl => match us, hl with | [_, _], _ => rfl
theorem sc__law_bits : FnScope N__law_bits ["book", "kind"] (defScope (top 33)) := ⟨rfl, rfl, rfl, by decide +kernel, rfl, by decide +kernel, by decide +kernel⟩
theorem g__law_bits {P : Program} {w : World} {K : PySem.W.Frag} {mg : Str → Option Value} {base : Heap} {f : Addr} {fd : FuncData} (c : Ctx P w K mg) (hF : Fun K "_law_bits" "_law_bits" (top 33) f fd) : FnG P w K mg base 2 f fd ["book", "kind"] (spF K 2 F__law_bits) := by
  have nd := sc__law_bits.nd
  exact fng_of (k := 1) hF sc__law_bits rfl rfl fun cd A outer s H E B =>
    jb_one (js_ret (je_ix ix_all (je_ix ix_all (je_v 0) (je_int) (fun _ _ => rfl)) (je_ix ix_all (je_lst (ja_cons (je_int) (ja_cons (je_int) (ja_cons (je_int) (ja_cons (je_int) (ja_cons (je_int) (ja_cons (je_int) (ja_cons (je_int) (ja_cons (je_int) (ja_cons (je_int) (ja_cons (je_int) (ja_cons (je_int) (ja_nil))))))))))))) (je_m .lst rfl PySem.F.plainAttrs_list PySem.F.slot_list_index PySem.F.type_list_index (jm_idx (Bd.fit B)) (je_f0 B ((t__law_kinds c).up (by decide)) bp__law_kinds rfl) (ja_cons (je_v 1) (ja_nil))) (fun _ _ => rfl)) (fun _ _ => rfl)))
theorem t__law_bits {P : Program} {w : World} {K : PySem.W.Frag} {mg : Str → Option Value} {base : Heap} (c : Ctx P w K mg) : FnT P w K mg base 2 "_law_bits" ["book", "kind"] (top 33) F__law_bits := by
  obtain ⟨f, fd, hF, hm⟩ := c.d__law_bits
  exact ⟨⟨f, fd, hF, hm, g__law_bits c hF⟩, fun as s h => if_neg h⟩

def N__law_is_unsigned : List Str := ["book", "kind"]
def b__law_is_unsigned : SS := xRet (sIf (tB (s2 oEq (sV 1) (sK (.str "char")))) (s2 oEq (s2 oIx (sV 0) (sK (.int 1))) (sK (.str "u"))) (s2 oEq (s2 oIx (sV 1) (sK (.int 0))) (sK (.str "u"))))
def F__law_is_unsigned : FS := dF 2 2 true b__law_is_unsigned
theorem bp__law_is_unsigned : BindP "_law_is_unsigned" (top 34) ["book", "kind"] := fun _ _ _ _ _ _ us hl => match us, hl with | [_, _], _ => rfl
theorem sc__law_is_unsigned : FnScope N__law_is_unsigned ["book", "kind"] (defScope (top 34)) := ⟨rfl, rfl, rfl, by decide +kernel, rfl, by decide +kernel, by decide +kernel⟩
theorem g__law_is_unsigned {P : Program} {w : World} {K : PySem.W.Frag} {mg : Str → Option Value} {base : Heap} {f : Addr} {fd : FuncData} (c : Ctx P w K mg) (hF : Fun K "_law_is_unsigned" "_law_is_unsigned" (top 34) f fd) : FnG P w K mg base 1 f fd ["book", "kind"] (spF K 2 F__law_is_unsigned) := by
  have nd := sc__law_is_unsigned.nd
  exact fng_of (k := 0) hF sc__law_is_unsigned rfl rfl fun cd A outer s H E B =>
    jb_one (js_ret (je_if (jt_cmp (jop_eq (Bd.fit B)) (je_v 1) (je_str) (nomark _)) (je_cmp (jop_eq (Bd.fit B)) (je_ix ix_all (je_v 0) (je_int) (fun _ _ => rfl)) (je_str) (nomark _)) (je_cmp (jop_eq (Bd.fit B)) (je_ix ix_all (je_v 1) (je_int) (fun _ _ => rfl)) (je_str) (nomark _))))
theorem t__law_is_unsigned {P : Program} {w : World} {K : PySem.W.Frag} {mg : Str → Option Value} {base : Heap} (c : Ctx P w K mg) : FnT P w K mg base 1 "_law_is_unsigned" ["book", "kind"] (top 34) F__law_is_unsigned := by
  obtain ⟨f, fd, hF, hm⟩ := c.d__law_is_unsigned
  exact ⟨⟨f, fd, hF, hm, g__law_is_unsigned c hF⟩, fun as s h => if_neg h⟩

def N__law_ends : List Str := ["book", "kind", "many", "half", "turn"]
def b__law_ends : SS := xSeq (xSet 2 (sF F__law_bits (aCons (sV 0) (aCons (sV 1) (aNil))))) (xSeq (xSet 3 (sK (.int 1))) (xSeq (xFor (sRg1 (aCons (s2 oSub (sV 2) (sK (.int 1))) (aNil))) (gN 4) (xSet 3 (s2 oMul (sV 3) (sK (.int 2))))) (xRet (sIf (tT (sF F__law_is_unsigned (aCons (sV 0) (aCons (sV 1) (aNil))))) (sTup (aCons (sK (.int 0)) (aCons (s2 oSub (s2 oMul (sV 3) (sK (.int 2))) (sK (.int 1))) (aNil)))) (sTup (aCons (s2 oSub (sK (.int 0)) (sV 3)) (aCons (s2 oSub (sV 3) (sK (.int 1))) (aNil))))))))
def F__law_ends : FS := dF 2 5 true b__law_ends
theorem bp__law_ends : BindP "_law_ends" (top 35) ["book", "kind"] := fun _ _ _ _ _ _ us hl => match us, hl with | [_, _], _ => rfl
theorem sc__law_ends : FnScope N__law_ends ["book", "kind"] (defScope (top 35)) := ⟨rfl, rfl, rfl, by decide +kernel, rfl, by decide +kernel, by decide +kernel⟩
theorem g__law_ends {P : Program} {w : World} {K : PySem.W.Frag} {mg : Str → Option Value} {base : Heap} {f : Addr} {fd : FuncData} (c : Ctx P w K mg) (hF : Fun K "_law_ends" "_law_ends" (top 35) f fd) : FnG P w K mg base 3 f fd ["book", "kind"] (spF K 2 F__law_ends) := by
  have nd := sc__law_ends.nd
  exact fng_of (k := 2) hF sc__law_ends rfl rfl fun cd A outer s H E B =>
    jb_cons (js_set (i := 2) nd (je_f B ((t__law_bits c).up (by decide)) bp__law_bits rfl (ja_cons (je_v 0) (ja_cons (je_v 1) (ja_nil))))) (jb_cons (js_set (i := 3) nd (je_int)) (jb_cons (js_for (Bd.own B) rfl (ji_rg1 rfl c.n_range (ja_cons (je_2 jop_sub (je_v 2) (je_int)) (ja_nil))) (jg_n (i := 4) nd) (jb_one (js_set (i := 3) nd (je_2 jop_mul (je_v 3) (je_int))))) (jb_one (js_ret (je_if (jt_t (je_f B ((t__law_is_unsigned c).up (by decide)) bp__law_is_unsigned rfl (ja_cons (je_v 0) (ja_cons (je_v 1) (ja_nil))))) (je_tup (ja_cons (je_int) (ja_cons (je_2 jop_sub (je_2 jop_mul (je_v 3) (je_int)) (je_int)) (ja_nil)))) (je_tup (ja_cons (je_2 jop_sub (je_int) (je_v 3)) (ja_cons (je_2 jop_sub (je_v 3) (je_int)) (ja_nil)))))))))
theorem t__law_ends {P : Program} {w : World} {K : PySem.W.Frag} {mg : Str → Option Value} {base : Heap} (c : Ctx P w K mg) : FnT P w K mg base 3 "_law_ends" ["book", "kind"] (top 35) F__law_ends := by
  obtain ⟨f, fd, hF, hm⟩ := c.d__law_ends
  exact ⟨⟨f, fd, hF, hm, g__law_ends c hF⟩, fun as s h => if_neg h⟩

def N__law_common : List Str := ["book", "one", "two", "kinds", "some", "kind", "plus", "minus"]
def b__law_common : SS := xSeq (xSet 3 (sF F__law_kinds aNil)) (xSeq (xSet 4 (sLstM (aNil))) (xSeq (xFor (sIt (sTup (aCons (sV 1) (aCons (sV 2) (aNil))))) (gN 5) (xSeq (xIf (tB (s2 oLt (sMt .lst gIdx (sV 3) (aCons (sV 5) (aNil))) (sK (.int 5)))) (xSet 5 (sIf (tAnd (tT (sF F__law_is_unsigned (aCons (sV 0) (aCons (sV 5) (aNil))))) (tB (s2 oEq (sF F__law_bits (aCons (sV 0) (aCons (sV 5) (aNil)))) (sF F__law_bits (aCons (sV 0) (aCons (sK (.str "int")) (aNil))))))) (sK (.str "uint")) (sK (.str "int")))) (xNil)) (xExp (sMt .lst gApp (sV 4) (aCons (sV 5) (aNil)))))) (xSeq (xAsg (sV 4) (gT 2 (gsC (gN 1) (gsC (gN 2) (gsN))))) (xSeq (xIf (tB (s2 oEq (s2 oEq (s2 oIx (sV 1) (sK (.int 0))) (sK (.str "u"))) (s2 oEq (s2 oIx (sV 2) (sK (.int 0))) (sK (.str "u"))))) (xRet (sIf (tB (s2 oGe (sMt .lst gIdx (sV 3) (aCons (sV 1) (aNil))) (sMt .lst gIdx (sV 3) (aCons (sV 2) (aNil))))) (sV 1) (sV 2))) (xNil)) (xSeq (xAsg (sIf (tB (s2 oEq (s2 oIx (sV 1) (sK (.int 0))) (sK (.str "u")))) (sTup (aCons (sV 1) (aCons (sV 2) (aNil)))) (sTup (aCons (sV 2) (aCons (sV 1) (aNil))))) (gT 2 (gsC (gN 6) (gsC (gN 7) (gsN))))) (xSeq (xIf (tB (s2 oGt (sMt .lst gIdx (sV 3) (aCons (sV 6) (aNil))) (sMt .lst gIdx (sV 3) (aCons (sV 7) (aNil))))) (xRet (sV 6)) (xNil)) (xRet (sIf (tB (s2 oLt (sF F__law_bits (aCons (sV 0) (aCons (sV 6) (aNil)))) (sF F__law_bits (aCons (sV 0) (aCons (sV 7) (aNil)))))) (sV 7) (s2 oAdd (sK (.str "u")) (sV 7))))))))))
def F__law_common : FS := dF 3 8 true b__law_common
theorem bp__law_common : BindP "_law_common" (top 38) ["book", "one", "two"] := fun _ _ _ _ _ _ us hl => match us, hl with | [_, _, _], _ => rfl
theorem sc__law_common : FnScope N__law_common ["book", "one", "two"] (defScope (top 38)) := ⟨rfl, rfl, rfl, by decide +kernel, rfl, by decide +kernel, by decide +kernel⟩
theorem g__law_common {P : Program} {w : World} {K : PySem.W.Frag} {mg : Str → Option Value} {base : Heap} {f : Addr} {fd : FuncData} (c : Ctx P w K mg) (hF : Fun K "_law_common" "_law_common" (top 38) f fd) : FnG P w K mg base 3 f fd ["book", "one", "two"] (spF K 3 F__law_common) := by
  have nd := sc__law_common.nd
  exact fng_of (k := 2) hF sc__law_common rfl rfl fun cd A outer s H E B =>
    jb_cons (js_set (i := 3) nd (je_f0 B ((t__law_kinds c).up (by decide)) bp__law_kinds rfl)) (jb_cons (js_set (i := 4) nd (je_lstM (ja_nil))) (jb_cons (js_for (Bd.own B) rfl (ji_v (je_tup (ja_cons (je_v 1) (ja_cons (je_v 2) (ja_nil))))) (jg_n (i := 5) nd) (jb_cons (js_if (jt_cmp jop_lt (je_m .lst rfl PySem.F.plainAttrs_list PySem.F.slot_list_index PySem.F.type_list_index (jm_idx (Bd.fit B)) (je_v 3) (ja_cons (je_v 5) (ja_nil))) (je_int) (nomark _)) (jb_one (js_set (i := 5) nd (je_if (JW.jt (jw_and (jt_t (je_f B ((t__law_is_unsigned c).up (by decide)) bp__law_is_unsigned rfl (ja_cons (je_v 0) (ja_cons (je_v 5) (ja_nil))))) (jw_and1 (jt_cmp (jop_eq (Bd.fit B)) (je_f B ((t__law_bits c).up (by decide)) bp__law_bits rfl (ja_cons (je_v 0) (ja_cons (je_v 5) (ja_nil)))) (je_f B ((t__law_bits c).up (by decide)) bp__law_bits rfl (ja_cons (je_v 0) (ja_cons (je_str) (ja_nil)))) (nomark _))))) (je_str) (je_str)))) (jb_nil)) (jb_one (js_exp (je_m .lst rfl PySem.F.plainAttrs_list PySem.F.slot_list_append PySem.F.type_list_append jm_app (je_v 4) (ja_cons (je_v 5) (ja_nil))))))) (jb_cons (js_asg (je_v 4) (jg_t rfl (jgs_c (jg_n (i := 1) nd) (jgs_c (jg_n (i := 2) nd) (jgs_n))))) (jb_cons (js_if (jt_cmp (jop_eq (Bd.fit B)) (je_cmp (jop_eq (Bd.fit B)) (je_ix ix_all (je_v 1) (je_int) (fun _ _ => rfl)) (je_str) (nomark _)) (je_cmp (jop_eq (Bd.fit B)) (je_ix ix_all (je_v 2) (je_int) (fun _ _ => rfl)) (je_str) (nomark _)) (nomark _)) (jb_one (js_ret (je_if (jt_cmp jop_ge (je_m .lst rfl PySem.F.plainAttrs_list PySem.F.slot_list_index PySem.F.type_list_index (jm_idx (Bd.fit B)) (je_v 3) (ja_cons (je_v 1) (ja_nil))) (je_m .lst rfl PySem.F.plainAttrs_list PySem.F.slot_list_index PySem.F.type_list_index (jm_idx (Bd.fit B)) (je_v 3) (ja_cons (je_v 2) (ja_nil))) (nomark _)) (je_v 1) (je_v 2)))) (jb_nil)) (jb_cons (js_asg (je_if (jt_cmp (jop_eq (Bd.fit B)) (je_ix ix_all (je_v 1) (je_int) (fun _ _ => rfl)) (je_str) (nomark _)) (je_tup (ja_cons (je_v 1) (ja_cons (je_v 2) (ja_nil)))) (je_tup (ja_cons (je_v 2) (ja_cons (je_v 1) (ja_nil))))) (jg_t rfl (jgs_c (jg_n (i := 6) nd) (jgs_c (jg_n (i := 7) nd) (jgs_n))))) (jb_cons (js_if (jt_cmp jop_gt (je_m .lst rfl PySem.F.plainAttrs_list PySem.F.slot_list_index PySem.F.type_list_index (jm_idx (Bd.fit B)) (je_v 3) (ja_cons (je_v 6) (ja_nil))) (je_m .lst rfl PySem.F.plainAttrs_list PySem.F.slot_list_index PySem.F.type_list_index (jm_idx (Bd.fit B)) (je_v 3) (ja_cons (je_v 7) (ja_nil))) (nomark _)) (jb_one (js_ret (je_v 6))) (jb_nil)) (jb_one (js_ret (je_if (jt_cmp jop_lt (je_f B ((t__law_bits c).up (by decide)) bp__law_bits rfl (ja_cons (je_v 0) (ja_cons (je_v 6) (ja_nil)))) (je_f B ((t__law_bits c).up (by decide)) bp__law_bits rfl (ja_cons (je_v 0) (ja_cons (je_v 7) (ja_nil)))) (nomark _)) (je_v 7) (je_2 jop_add (je_str) (je_v 7)))))))))))
theorem t__law_common {P : Program} {w : World} {K : PySem.W.Frag} {mg : Str → Option Value} {base : Heap} (c : Ctx P w K mg) : FnT P w K mg base 3 "_law_common" ["book", "one", "two"] (top 38) F__law_common := by
  obtain ⟨f, fd, hF, hm⟩ := c.d__law_common
  exact ⟨⟨f, fd, hF, hm, g__law_common c hF⟩, fun as s h => if_neg h⟩

def N__law_into : List Str := ["book", "kind", "amount", "low", "high"]
def b__law_into : SS := xSeq (xAsg (sF F__law_ends (aCons (sV 0) (aCons (sV 1) (aNil)))) (gT 2 (gsC (gN 3) (gsC (gN 4) (gsN))))) (xRet (s2 oAdd (s2 oMod (s2 oSub (sV 2) (sV 3)) (s2 oAdd (s2 oSub (sV 4) (sV 3)) (sK (.int 1)))) (sV 3)))
def F__law_into : FS := dF 3 5 true b__law_into
theorem bp__law_into : BindP "_law_into" (top 37) ["book", "kind", "amount"] := fun _ _ _ _ _ _ us hl => match us, hl with | [_, _, _], _ => rfl
theorem sc__law_into : FnScope N__law_into ["book", "kind", "amount"] (defScope (top 37)) := ⟨rfl, rfl, rfl, by decide +kernel, rfl, by decide +kernel, by decide +kernel⟩
theorem g__law_into {P : Program} {w : World} {K : PySem.W.Frag} {mg : Str → Option Value} {base : Heap} {f : Addr} {fd : FuncData} (c : Ctx P w K mg) (hF : Fun K "_law_into" "_law_into" (top 37) f fd) : FnG P w K mg base 4 f fd ["book", "kind", "amount"] (spF K 3 F__law_into) := by
  have nd := sc__law_into.nd
  exact fng_of (k := 3) hF sc__law_into rfl rfl fun cd A outer s H E B =>
    jb_cons (js_asg (je_f B ((t__law_ends c).up (by decide)) bp__law_ends rfl (ja_cons (je_v 0) (ja_cons (je_v 1) (ja_nil)))) (jg_t rfl (jgs_c (jg_n (i := 3) nd) (jgs_c (jg_n (i := 4) nd) (jgs_n))))) (jb_one (js_ret (je_2 jop_add (je_2 jop_mod (je_2 jop_sub (je_v 2) (je_v 3)) (je_2 jop_add (je_2 jop_sub (je_v 4) (je_v 3)) (je_int))) (je_v 3))))
theorem t__law_into {P : Program} {w : World} {K : PySem.W.Frag} {mg : Str → Option Value} {base : Heap} (c : Ctx P w K mg) : FnT P w K mg base 4 "_law_into" ["book", "kind", "amount"] (top 37) F__law_into := by
  obtain ⟨f, fd, hF, hm⟩ := c.d__law_into
  exact ⟨⟨f, fd, hF, hm, g__law_into c hF⟩, fun as s h => if_neg h⟩

def N__law_tried : List Str := ["book", "one", "two", "low", "high", "begin", "end", "kind", "found", "left", "right"]
def b__law_tried : SS := xSeq (xAsg (sF F__law_ends (aCons (sV 0) (aCons (sV 1) (aNil)))) (gT 2 (gsC (gN 3) (gsC (gN 4) (gsN))))) (xSeq (xAsg (sF F__law_ends (aCons (sV 0) (aCons (sV 2) (aNil)))) (gT 2 (gsC (gN 5) (gsC (gN 6) (gsN))))) (xSeq (xPar 7 8 (aCons (sF F__law_common (aCons (sV 0) (aCons (sV 1) (aCons (sV 2) (aNil))))) (aCons (sLstM (aNil)) (aNil)))) (xSeq (xFor (sRg2 (aCons (sV 3) (aCons (s2 oAdd (sV 4) (sK (.int 1))) (aNil)))) (gN 9) (xFor (sRg2 (aCons (sV 5) (aCons (s2 oAdd (sV 6) (sK (.int 1))) (aNil)))) (gN 10) (xIf (tB (s2 oNe (s2 oLt (sF F__law_into (aCons (sV 0) (aCons (sV 7) (aCons (sV 9) (aNil))))) (sF F__law_into (aCons (sV 0) (aCons (sV 7) (aCons (sV 10) (aNil)))))) (s2 oLt (sV 9) (sV 10)))) (xExp (sMt .lst gApp (sV 8) (aCons (sTup (aCons (sV 9) (aCons (sV 10) (aNil)))) (aNil)))) (xNil)))) (xRet (sLst (aCons (sCl cLen (aCons (sV 8) (aNil))) (aCons (sIf (tB (s2 oNe (sV 8) (sLst (aNil)))) (s2 oIx (sV 8) (sK (.int 0))) (sK .none)) (aNil))))))))
def F__law_tried : FS := dF 3 11 true b__law_tried
theorem bp__law_tried : BindP "_law_tried" (top 39) ["book", "one", "two"] := fun _ _ _ _ _ _ us hl => match us, hl with | [_, _, _], _ => rfl
theorem sc__law_tried : FnScope N__law_tried ["book", "one", "two"] (defScope (top 39)) := ⟨rfl, rfl, rfl, by decide +kernel, rfl, by decide +kernel, by decide +kernel⟩
theorem g__law_tried {P : Program} {w : World} {K : PySem.W.Frag} {mg : Str → Option Value} {base : Heap} {f : Addr} {fd : FuncData} (c : Ctx P w K mg) (hF : Fun K "_law_tried" "_law_tried" (top 39) f fd) : FnG P w K mg base 5 f fd ["book", "one", "two"] (spF K 3 F__law_tried) := by
  have nd := sc__law_tried.nd
  exact fng_of (k := 4) hF sc__law_tried rfl rfl fun cd A outer s H E B =>
    jb_cons (js_asg (je_f B ((t__law_ends c).up (by decide)) bp__law_ends rfl (ja_cons (je_v 0) (ja_cons (je_v 1) (ja_nil)))) (jg_t rfl (jgs_c (jg_n (i := 3) nd) (jgs_c (jg_n (i := 4) nd) (jgs_n))))) (jb_cons (js_asg (je_f B ((t__law_ends c).up (by decide)) bp__law_ends rfl (ja_cons (je_v 0) (ja_cons (je_v 2) (ja_nil)))) (jg_t rfl (jgs_c (jg_n (i := 5) nd) (jgs_c (jg_n (i := 6) nd) (jgs_n))))) (jb_cons (js_par (i := 7) (j := 8) rfl nd (ja_cons (je_f B ((t__law_common c).up (by decide)) bp__law_common rfl (ja_cons (je_v 0) (ja_cons (je_v 1) (ja_cons (je_v 2) (ja_nil))))) (ja_cons (je_lstM (ja_nil)) (ja_nil)))) (jb_cons (js_for (Bd.own B) rfl (ji_rg2 rfl c.n_range (ja_cons (je_v 3) (ja_cons (je_2 jop_add (je_v 4) (je_int)) (ja_nil)))) (jg_n (i := 9) nd) (jb_one (js_for (Bd.own B) rfl (ji_rg2 rfl c.n_range (ja_cons (je_v 5) (ja_cons (je_2 jop_add (je_v 6) (je_int)) (ja_nil)))) (jg_n (i := 10) nd) (jb_one (js_if (jt_cmp (jop_ne (Bd.fit B)) (je_cmp jop_lt (je_f B ((t__law_into c).up (by decide)) bp__law_into rfl (ja_cons (je_v 0) (ja_cons (je_v 7) (ja_cons (je_v 9) (ja_nil))))) (je_f B ((t__law_into c).up (by decide)) bp__law_into rfl (ja_cons (je_v 0) (ja_cons (je_v 7) (ja_cons (je_v 10) (ja_nil))))) (nomark _)) (je_cmp jop_lt (je_v 9) (je_v 10) (nomark _)) (nomark _)) (jb_one (js_exp (je_m .lst rfl PySem.F.plainAttrs_list PySem.F.slot_list_append PySem.F.type_list_append jm_app (je_v 8) (ja_cons (je_tup (ja_cons (je_v 9) (ja_cons (je_v 10) (ja_nil)))) (ja_nil))))) (jb_nil)))))) (jb_one (js_ret (je_lst (ja_cons (je_cB jc_len rfl c.n_len (by decide +kernel) (ja_cons (je_v 8) (ja_nil))) (ja_cons (je_if (jt_cmp (jop_ne (Bd.fit B)) (je_v 8) (je_lst (ja_nil)) (nomark _)) (je_ix ix_all (je_v 8) (je_int) (fun _ _ => rfl)) (je_non)) (ja_nil)))))))))
theorem t__law_tried {P : Program} {w : World} {K : PySem.W.Frag} {mg : Str → Option Value} {base : Heap} (c : Ctx P w K mg) : FnT P w K mg base 5 "_law_tried" ["book", "one", "two"] (top 39) F__law_tried := by
  obtain ⟨f, fd, hF, hm⟩ := c.d__law_tried
  exact ⟨⟨f, fd, hF, hm, g__law_tried c hF⟩, fun as s h => if_neg h⟩

def N_check_widths : List Str := ["widths", "before", "index", "width_here"]
def b_check_widths : SS := xSeq (xIf (tB (s2 oNe (sCl cLen (aCons (sV 0) (aNil))) (sK k_WIDTHS))) (xBad) (xNil)) (xSeq (xSet 1 (sK k_FEWEST)) (xFor (sEnm (aCons (sV 0) (aNil))) (gT 2 (gsC (gN 2) (gsC (gN 3) (gsN)))) (xSeq (xIf (tNot (tB (sCh oLe oLe (sV 1) (sV 3) (sK k_MOST)))) (xBad) (xNil)) (xSet 1 (sV 3)))))
def F_check_widths : FS := dF 1 4 true b_check_widths
theorem bp_check_widths : BindP "check_widths" (top 12) ["widths"] := fun _ _ _ _ _ _ us hl => match us, hl with | [_], _ => rfl
theorem sc_check_widths : FnScope N_check_widths ["widths"] (defScope (top 12)) := ⟨rfl, rfl, rfl, by decide +kernel, rfl, by decide +kernel, by decide +kernel⟩
theorem g_check_widths {P : Program} {w : World} {K : PySem.W.Frag} {mg : Str → Option Value} {base : Heap} {f : Addr} {fd : FuncData} (c : Ctx P w K mg) (hF : Fun K "check_widths" "check_widths" (top 12) f fd) : FnG P w K mg base 1 f fd ["widths"] (spF K 1 F_check_widths) := by
  have nd := sc_check_widths.nd
  exact fng_of (k := 0) hF sc_check_widths rfl rfl fun cd A outer s H E B =>
    jb_cons (js_if (jt_cmp (jop_ne (Bd.fit B)) (je_cB jc_len rfl c.n_len (by decide +kernel) (ja_cons (je_v 0) (ja_nil))) (je_cst c.c_WIDTHS rfl) (nomark _)) (jb_one (js_bad)) (jb_nil)) (jb_cons (js_set (i := 1) nd (je_cst c.c_FEWEST rfl)) (jb_one (js_for (Bd.own B) rfl (ji_enm rfl c.n_enumerate (ja_cons (je_v 0) (ja_nil))) (jg_t rfl (jgs_c (jg_n (i := 2) nd) (jgs_c (jg_n (i := 3) nd) (jgs_n)))) (jb_cons (js_if (jt_not (jt_ch jop_le jop_le (je_v 1) (je_v 3) (je_cst c.c_MOST rfl))) (jb_one (js_bad)) (jb_nil)) (jb_one (js_set (i := 1) nd (je_v 3)))))))
theorem t_check_widths {P : Program} {w : World} {K : PySem.W.Frag} {mg : Str → Option Value} {base : Heap} (c : Ctx P w K mg) : FnT P w K mg base 1 "check_widths" ["widths"] (top 12) F_check_widths := by
  obtain ⟨f, fd, hF, hm⟩ := c.d_check_widths
  exact ⟨⟨f, fd, hF, hm, g_check_widths c hF⟩, fun as s h => if_neg h⟩

def N_check_model : List Str := ["model", "widths", "plain"]
def b_check_model : SS := xSeq (xAsg (sV 0) (gT 2 (gsC (gN 1) (gsC (gN 2) (gsN))))) (xSeq (xExp (sF F_check_widths (aCons (sV 1) (aNil)))) (xIf (tB (s2 oNin (sV 2) (sTup (aCons (sK (.str "s")) (aCons (sK (.str "u")) (aNil)))))) (xBad) (xNil)))
def F_check_model : FS := dF 1 3 true b_check_model
theorem bp_check_model : BindP "check_model" (top 13) ["model"] := fun _ _ _ _ _ _ us hl => match us, hl with | [_], _ => rfl
theorem sc_check_model : FnScope N_check_model ["model"] (defScope (top 13)) := ⟨rfl, rfl, rfl, by decide +kernel, rfl, by decide +kernel, by decide +kernel⟩
theorem g_check_model {P : Program} {w : World} {K : PySem.W.Frag} {mg : Str → Option Value} {base : Heap} {f : Addr} {fd : FuncData} (c : Ctx P w K mg) (hF : Fun K "check_model" "check_model" (top 13) f fd) : FnG P w K mg base 2 f fd ["model"] (spF K 1 F_check_model) := by
  have nd := sc_check_model.nd
  exact fng_of (k := 1) hF sc_check_model rfl rfl fun cd A outer s H E B =>
    jb_cons (js_asg (je_v 0) (jg_t rfl (jgs_c (jg_n (i := 1) nd) (jgs_c (jg_n (i := 2) nd) (jgs_n))))) (jb_cons (js_exp (je_f B ((t_check_widths c).up (by decide)) bp_check_widths rfl (ja_cons (je_v 1) (ja_nil)))) (jb_one (js_if (jt_cmp (jop_nin (Bd.fit B)) (je_v 2) (je_tup (ja_cons (je_str) (ja_cons (je_str) (ja_nil)))) (by with_unfolding_all rfl)) (jb_one (js_bad)) (jb_nil))))
theorem t_check_model {P : Program} {w : World} {K : PySem.W.Frag} {mg : Str → Option Value} {base : Heap} (c : Ctx P w K mg) : FnT P w K mg base 2 "check_model" ["model"] (top 13) F_check_model := by
  obtain ⟨f, fd, hF, hm⟩ := c.d_check_model
  exact ⟨⟨f, fd, hF, hm, g_check_model c hF⟩, fun as s h => if_neg h⟩

def N_check_kind : List Str := ["kind"]
def b_check_kind : SS := xIf (tB (sKnin k_RANKS (sV 0))) (xBad) (xNil)
def F_check_kind : FS := dF 1 1 true b_check_kind
theorem bp_check_kind : BindP "check_kind" (top 14) ["kind"] := fun _ _ _ _ _ _ us hl => match us, hl with | [_], _ => rfl
theorem sc_check_kind : FnScope N_check_kind ["kind"] (defScope (top 14)) := ⟨rfl, rfl, rfl, by decide +kernel, rfl, by decide +kernel, by decide +kernel⟩
theorem g_check_kind {P : Program} {w : World} {K : PySem.W.Frag} {mg : Str → Option Value} {base : Heap} {f : Addr} {fd : FuncData} (c : Ctx P w K mg) (hF : Fun K "check_kind" "check_kind" (top 14) f fd) : FnG P w K mg base 1 f fd ["kind"] (spF K 1 F_check_kind) := by
  have nd := sc_check_kind.nd
  exact fng_of (k := 0) hF sc_check_kind rfl rfl fun cd A outer s H E B =>
    jb_one (js_if (jt_knin c.t_RANKS rfl (je_v 0)) (jb_one (js_bad)) (jb_nil))
theorem t_check_kind {P : Program} {w : World} {K : PySem.W.Frag} {mg : Str → Option Value} {base : Heap} (c : Ctx P w K mg) : FnT P w K mg base 1 "check_kind" ["kind"] (top 14) F_check_kind := by
  obtain ⟨f, fd, hF, hm⟩ := c.d_check_kind
  exact ⟨⟨f, fd, hF, hm, g_check_kind c hF⟩, fun as s h => if_neg h⟩

def N_check_pair : List Str := ["model", "first", "second"]
def b_check_pair : SS := xSeq (xExp (sF F_check_model (aCons (sV 0) (aNil)))) (xSeq (xExp (sF F_check_kind (aCons (sV 1) (aNil)))) (xExp (sF F_check_kind (aCons (sV 2) (aNil)))))
def F_check_pair : FS := dF 3 3 true b_check_pair
theorem bp_check_pair : BindP "check_pair" (top 23) ["model", "first", "second"] := fun _ _ _ _ _ _ us hl => match us, hl with | [_, _, _], _ => rfl
theorem sc_check_pair : FnScope N_check_pair ["model", "first", "second"] (defScope (top 23)) := ⟨rfl, rfl, rfl, by decide +kernel, rfl, by decide +kernel, by decide +kernel⟩
theorem g_check_pair {P : Program} {w : World} {K : PySem.W.Frag} {mg : Str → Option Value} {base : Heap} {f : Addr} {fd : FuncData} (c : Ctx P w K mg) (hF : Fun K "check_pair" "check_pair" (top 23) f fd) : FnG P w K mg base 3 f fd ["model", "first", "second"] (spF K 3 F_check_pair) := by
  have nd := sc_check_pair.nd
  exact fng_of (k := 2) hF sc_check_pair rfl rfl fun cd A outer s H E B =>
    jb_cons (js_exp (je_f B ((t_check_model c).up (by decide)) bp_check_model rfl (ja_cons (je_v 0) (ja_nil)))) (jb_cons (js_exp (je_f B ((t_check_kind c).up (by decide)) bp_check_kind rfl (ja_cons (je_v 1) (ja_nil)))) (jb_one (js_exp (je_f B ((t_check_kind c).up (by decide)) bp_check_kind rfl (ja_cons (je_v 2) (ja_nil))))))
theorem t_check_pair {P : Program} {w : World} {K : PySem.W.Frag} {mg : Str → Option Value} {base : Heap} (c : Ctx P w K mg) : FnT P w K mg base 3 "check_pair" ["model", "first", "second"] (top 23) F_check_pair := by
  obtain ⟨f, fd, hF, hm⟩ := c.d_check_pair
  exact ⟨⟨f, fd, hF, hm, g_check_pair c hF⟩, fun as s h => if_neg h⟩

def N_bits : List Str := ["model", "kind"]
def b_bits : SS := xRet (s2 oIx (s2 oIx (sV 0) (sK (.int 0))) (sKget k_RANKS (sV 1)))
def F_bits : FS := dF 2 2 true b_bits
theorem bp_bits : BindP "bits" (top 16) ["model", "kind"] := fun _ _ _ _ _ _ us hl => match us, hl with | [_, _], _ => rfl
theorem sc_bits : FnScope N_bits ["model", "kind"] (defScope (top 16)) := ⟨rfl, rfl, rfl, by decide +kernel, rfl, by decide +kernel, by decide +kernel⟩
theorem g_bits {P : Program} {w : World} {K : PySem.W.Frag} {mg : Str → Option Value} {base : Heap} {f : Addr} {fd : FuncData} (c : Ctx P w K mg) (hF : Fun K "bits" "bits" (top 16) f fd) : FnG P w K mg base 1 f fd ["model", "kind"] (spF K 2 F_bits) := by
  have nd := sc_bits.nd
  exact fng_of (k := 0) hF sc_bits rfl rfl fun cd A outer s H E B =>
    jb_one (js_ret (je_ix ix_all (je_ix ix_all (je_v 0) (je_int) (fun _ _ => rfl)) (je_kget c.t_RANKS rfl (je_v 1) (fun _ _ => rfl)) (fun _ _ => rfl)))
theorem t_bits {P : Program} {w : World} {K : PySem.W.Frag} {mg : Str → Option Value} {base : Heap} (c : Ctx P w K mg) : FnT P w K mg base 1 "bits" ["model", "kind"] (top 16) F_bits := by
  obtain ⟨f, fd, hF, hm⟩ := c.d_bits
  exact ⟨⟨f, fd, hF, hm, g_bits c hF⟩, fun as s h => if_neg h⟩

def N_is_signed : List Str := ["model", "kind"]
def b_is_signed : SS := xRet (sIf (tB (s2 oEq (sV 1) (sK (.str "char")))) (s2 oEq (s2 oIx (sV 0) (sK (.int 1))) (sK (.str "s"))) (s2 oNe (s2 oIx (sV 1) (sK (.int 0))) (sK (.str "u"))))
def F_is_signed : FS := dF 2 2 true b_is_signed
theorem bp_is_signed : BindP "is_signed" (top 15) ["model", "kind"] := fun _ _ _ _ _ _ us hl => match us, hl with | [_, _], _ => rfl
theorem sc_is_signed : FnScope N_is_signed ["model", "kind"] (defScope (top 15)) := ⟨rfl, rfl, rfl, by decide +kernel, rfl, by decide +kernel, by decide +kernel⟩
theorem g_is_signed {P : Program} {w : World} {K : PySem.W.Frag} {mg : Str → Option Value} {base : Heap} {f : Addr} {fd : FuncData} (c : Ctx P w K mg) (hF : Fun K "is_signed" "is_signed" (top 15) f fd) : FnG P w K mg base 1 f fd ["model", "kind"] (spF K 2 F_is_signed) := by
  have nd := sc_is_signed.nd
  exact fng_of (k := 0) hF sc_is_signed rfl rfl fun cd A outer s H E B =>
    jb_one (js_ret (je_if (jt_cmp (jop_eq (Bd.fit B)) (je_v 1) (je_str) (nomark _)) (je_cmp (jop_eq (Bd.fit B)) (je_ix ix_all (je_v 0) (je_int) (fun _ _ => rfl)) (je_str) (nomark _)) (je_cmp (jop_ne (Bd.fit B)) (je_ix ix_all (je_v 1) (je_int) (fun _ _ => rfl)) (je_str) (nomark _))))
theorem t_is_signed {P : Program} {w : World} {K : PySem.W.Frag} {mg : Str → Option Value} {base : Heap} (c : Ctx P w K mg) : FnT P w K mg base 1 "is_signed" ["model", "kind"] (top 15) F_is_signed := by
  obtain ⟨f, fd, hF, hm⟩ := c.d_is_signed
  exact ⟨⟨f, fd, hF, hm, g_is_signed c hF⟩, fun as s h => if_neg h⟩

def N_limits_in : List Str := ["model", "kind", "values"]
def b_limits_in : SS := xSeq (xSet 2 (s2 oShl (sK (.int 1)) (sF F_bits (aCons (sV 0) (aCons (sV 1) (aNil)))))) (xSeq (xIf (tT (sF F_is_signed (aCons (sV 0) (aCons (sV 1) (aNil))))) (xRet (sTup (aCons (sNeg (s2 oDiv (sV 2) (sK (.int 2)))) (aCons (s2 oSub (s2 oDiv (sV 2) (sK (.int 2))) (sK (.int 1))) (aNil))))) (xNil)) (xRet (sTup (aCons (sK (.int 0)) (aCons (s2 oSub (sV 2) (sK (.int 1))) (aNil))))))
def F_limits_in : FS := dF 2 3 true b_limits_in
theorem bp_limits_in : BindP "limits_in" (top 17) ["model", "kind"] := fun _ _ _ _ _ _ us hl => match us, hl with | [_, _], _ => rfl
theorem sc_limits_in : FnScope N_limits_in ["model", "kind"] (defScope (top 17)) := ⟨rfl, rfl, rfl, by decide +kernel, rfl, by decide +kernel, by decide +kernel⟩
theorem g_limits_in {P : Program} {w : World} {K : PySem.W.Frag} {mg : Str → Option Value} {base : Heap} {f : Addr} {fd : FuncData} (c : Ctx P w K mg) (hF : Fun K "limits_in" "limits_in" (top 17) f fd) : FnG P w K mg base 2 f fd ["model", "kind"] (spF K 2 F_limits_in) := by
  have nd := sc_limits_in.nd
  exact fng_of (k := 1) hF sc_limits_in rfl rfl fun cd A outer s H E B =>
    jb_cons (js_set (i := 2) nd (je_2 jop_shl (je_int) (je_f B ((t_bits c).up (by decide)) bp_bits rfl (ja_cons (je_v 0) (ja_cons (je_v 1) (ja_nil)))))) (jb_cons (js_if (jt_t (je_f B ((t_is_signed c).up (by decide)) bp_is_signed rfl (ja_cons (je_v 0) (ja_cons (je_v 1) (ja_nil))))) (jb_one (js_ret (je_tup (ja_cons (je_neg (je_2 jop_div (je_v 2) (je_int))) (ja_cons (je_2 jop_sub (je_2 jop_div (je_v 2) (je_int)) (je_int)) (ja_nil)))))) (jb_nil)) (jb_one (js_ret (je_tup (ja_cons (je_int) (ja_cons (je_2 jop_sub (je_v 2) (je_int)) (ja_nil)))))))
theorem t_limits_in {P : Program} {w : World} {K : PySem.W.Frag} {mg : Str → Option Value} {base : Heap} (c : Ctx P w K mg) : FnT P w K mg base 2 "limits_in" ["model", "kind"] (top 17) F_limits_in := by
  obtain ⟨f, fd, hF, hm⟩ := c.d_limits_in
  exact ⟨⟨f, fd, hF, hm, g_limits_in c hF⟩, fun as s h => if_neg h⟩

def N_held : List Str := ["model", "kind", "number", "low", "high"]
def b_held : SS := xSeq (xAsg (sF F_limits_in (aCons (sV 0) (aCons (sV 1) (aNil)))) (gT 2 (gsC (gN 3) (gsC (gN 4) (gsN))))) (xRet (sCh oLe oLe (sV 3) (sV 2) (sV 4)))
def F_held : FS := dF 3 5 true b_held
theorem bp_held : BindP "held" (top 18) ["model", "kind", "number"] := fun _ _ _ _ _ _ us hl => match us, hl with | [_, _, _], _ => rfl
theorem sc_held : FnScope N_held ["model", "kind", "number"] (defScope (top 18)) := ⟨rfl, rfl, rfl, by decide +kernel, rfl, by decide +kernel, by decide +kernel⟩
theorem g_held {P : Program} {w : World} {K : PySem.W.Frag} {mg : Str → Option Value} {base : Heap} {f : Addr} {fd : FuncData} (c : Ctx P w K mg) (hF : Fun K "held" "held" (top 18) f fd) : FnG P w K mg base 3 f fd ["model", "kind", "number"] (spF K 3 F_held) := by
  have nd := sc_held.nd
  exact fng_of (k := 2) hF sc_held rfl rfl fun cd A outer s H E B =>
    jb_cons (js_asg (je_f B ((t_limits_in c).up (by decide)) bp_limits_in rfl (ja_cons (je_v 0) (ja_cons (je_v 1) (ja_nil)))) (jg_t rfl (jgs_c (jg_n (i := 3) nd) (jgs_c (jg_n (i := 4) nd) (jgs_n))))) (jb_one (js_ret (je_ch jop_le jop_le (je_v 3) (je_v 2) (je_v 4))))
theorem t_held {P : Program} {w : World} {K : PySem.W.Frag} {mg : Str → Option Value} {base : Heap} (c : Ctx P w K mg) : FnT P w K mg base 3 "held" ["model", "kind", "number"] (top 18) F_held := by
  obtain ⟨f, fd, hF, hm⟩ := c.d_held
  exact ⟨⟨f, fd, hF, hm, g_held c hF⟩, fun as s h => if_neg h⟩

def N_promoted_in : List Str := ["model", "kind"]
def b_promoted_in : SS := xSeq (xIf (tB (s2 oGe (sKget k_RANKS (sV 1)) (sK k_INT))) (xRet (sV 1)) (xNil)) (xRet (sIf (tOr (tT (sF F_is_signed (aCons (sV 0) (aCons (sV 1) (aNil))))) (tB (s2 oLt (sF F_bits (aCons (sV 0) (aCons (sV 1) (aNil)))) (s2 oIx (s2 oIx (sV 0) (sK (.int 0))) (sK k_INT))))) (sK (.str "int")) (sK (.str "uint"))))
def F_promoted_in : FS := dF 2 2 true b_promoted_in
theorem bp_promoted_in : BindP "promoted_in" (top 19) ["model", "kind"] := fun _ _ _ _ _ _ us hl => match us, hl with | [_, _], _ => rfl
theorem sc_promoted_in : FnScope N_promoted_in ["model", "kind"] (defScope (top 19)) := ⟨rfl, rfl, rfl, by decide +kernel, rfl, by decide +kernel, by decide +kernel⟩
theorem g_promoted_in {P : Program} {w : World} {K : PySem.W.Frag} {mg : Str → Option Value} {base : Heap} {f : Addr} {fd : FuncData} (c : Ctx P w K mg) (hF : Fun K "promoted_in" "promoted_in" (top 19) f fd) : FnG P w K mg base 2 f fd ["model", "kind"] (spF K 2 F_promoted_in) := by
  have nd := sc_promoted_in.nd
  exact fng_of (k := 1) hF sc_promoted_in rfl rfl fun cd A outer s H E B =>
    jb_cons (js_if (jt_cmp jop_ge (je_kget c.t_RANKS rfl (je_v 1) (fun _ _ => rfl)) (je_cst c.c_INT rfl) (nomark _)) (jb_one (js_ret (je_v 1))) (jb_nil)) (jb_one (js_ret (je_if (JW.jt (jw_or (jt_t (je_f B ((t_is_signed c).up (by decide)) bp_is_signed rfl (ja_cons (je_v 0) (ja_cons (je_v 1) (ja_nil))))) (jw_or1 (jt_cmp jop_lt (je_f B ((t_bits c).up (by decide)) bp_bits rfl (ja_cons (je_v 0) (ja_cons (je_v 1) (ja_nil)))) (je_ix ix_all (je_ix ix_all (je_v 0) (je_int) (fun _ _ => rfl)) (je_cst c.c_INT rfl) (fun _ _ => rfl)) (nomark _))))) (je_str) (je_str))))
theorem t_promoted_in {P : Program} {w : World} {K : PySem.W.Frag} {mg : Str → Option Value} {base : Heap} (c : Ctx P w K mg) : FnT P w K mg base 2 "promoted_in" ["model", "kind"] (top 19) F_promoted_in := by
  obtain ⟨f, fd, hF, hm⟩ := c.d_promoted_in
  exact ⟨⟨f, fd, hF, hm, g_promoted_in c hF⟩, fun as s h => if_neg h⟩

def N_common_in : List Str := ["model", "first", "second", "one", "other", "greater", "signed", "unsigned"]
def b_common_in : SS := xSeq (xPar 3 4 (aCons (sF F_promoted_in (aCons (sV 0) (aCons (sV 1) (aNil)))) (aCons (sF F_promoted_in (aCons (sV 0) (aCons (sV 2) (aNil)))) (aNil)))) (xSeq (xSet 5 (sCl cMax (aCons (sKget k_RANKS (sV 3)) (aCons (sKget k_RANKS (sV 4)) (aNil))))) (xSeq (xIf (tB (s2 oEq (sF F_is_signed (aCons (sV 0) (aCons (sV 3) (aNil)))) (sF F_is_signed (aCons (sV 0) (aCons (sV 4) (aNil)))))) (xRet (sIf (tT (sF F_is_signed (aCons (sV 0) (aCons (sV 3) (aNil))))) (sKgetI k_SIGNED (sV 5)) (sKgetI k_UNSIGNED (sV 5)))) (xNil)) (xSeq (xAsg (sIf (tT (sF F_is_signed (aCons (sV 0) (aCons (sV 3) (aNil))))) (sTup (aCons (sV 3) (aCons (sV 4) (aNil)))) (sTup (aCons (sV 4) (aCons (sV 3) (aNil))))) (gT 2 (gsC (gN 6) (gsC (gN 7) (gsN))))) (xSeq (xIf (tAnd (tB (s2 oLt (sKget k_RANKS (sV 7)) (sKget k_RANKS (sV 6)))) (tB (s2 oLt (sF F_bits (aCons (sV 0) (aCons (sV 7) (aNil)))) (sF F_bits (aCons (sV 0) (aCons (sV 6) (aNil))))))) (xRet (sV 6)) (xNil)) (xRet (sKgetI k_UNSIGNED (sV 5)))))))
def F_common_in : FS := dF 3 8 true b_common_in
theorem bp_common_in : BindP "common_in" (top 20) ["model", "first", "second"] := fun _ _ _ _ _ _ us hl => match us, hl with | [_, _, _], _ => rfl
theorem sc_common_in : FnScope N_common_in ["model", "first", "second"] (defScope (top 20)) := ⟨rfl, rfl, rfl, by decide +kernel, rfl, by decide +kernel, by decide +kernel⟩
theorem g_common_in {P : Program} {w : World} {K : PySem.W.Frag} {mg : Str → Option Value} {base : Heap} {f : Addr} {fd : FuncData} (c : Ctx P w K mg) (hF : Fun K "common_in" "common_in" (top 20) f fd) : FnG P w K mg base 3 f fd ["model", "first", "second"] (spF K 3 F_common_in) := by
  have nd := sc_common_in.nd
  exact fng_of (k := 2) hF sc_common_in rfl rfl fun cd A outer s H E B =>
    jb_cons (js_par (i := 3) (j := 4) rfl nd (ja_cons (je_f B ((t_promoted_in c).up (by decide)) bp_promoted_in rfl (ja_cons (je_v 0) (ja_cons (je_v 1) (ja_nil)))) (ja_cons (je_f B ((t_promoted_in c).up (by decide)) bp_promoted_in rfl (ja_cons (je_v 0) (ja_cons (je_v 2) (ja_nil)))) (ja_nil)))) (jb_cons (js_set (i := 5) nd (je_cB (jc_max (Bd.fit B)) rfl c.n_max (by decide +kernel) (ja_cons (je_kget c.t_RANKS rfl (je_v 3) (fun _ _ => rfl)) (ja_cons (je_kget c.t_RANKS rfl (je_v 4) (fun _ _ => rfl)) (ja_nil))))) (jb_cons (js_if (jt_cmp (jop_eq (Bd.fit B)) (je_f B ((t_is_signed c).up (by decide)) bp_is_signed rfl (ja_cons (je_v 0) (ja_cons (je_v 3) (ja_nil)))) (je_f B ((t_is_signed c).up (by decide)) bp_is_signed rfl (ja_cons (je_v 0) (ja_cons (je_v 4) (ja_nil)))) (nomark _)) (jb_one (js_ret (je_if (jt_t (je_f B ((t_is_signed c).up (by decide)) bp_is_signed rfl (ja_cons (je_v 0) (ja_cons (je_v 3) (ja_nil))))) (je_kgetI c.t_SIGNED rfl (je_v 5) (fun _ _ => rfl)) (je_kgetI c.t_UNSIGNED rfl (je_v 5) (fun _ _ => rfl))))) (jb_nil)) (jb_cons (js_asg (je_if (jt_t (je_f B ((t_is_signed c).up (by decide)) bp_is_signed rfl (ja_cons (je_v 0) (ja_cons (je_v 3) (ja_nil))))) (je_tup (ja_cons (je_v 3) (ja_cons (je_v 4) (ja_nil)))) (je_tup (ja_cons (je_v 4) (ja_cons (je_v 3) (ja_nil))))) (jg_t rfl (jgs_c (jg_n (i := 6) nd) (jgs_c (jg_n (i := 7) nd) (jgs_n))))) (jb_cons (js_if (JW.jt (jw_and (jt_cmp jop_lt (je_kget c.t_RANKS rfl (je_v 7) (fun _ _ => rfl)) (je_kget c.t_RANKS rfl (je_v 6) (fun _ _ => rfl)) (nomark _)) (jw_and1 (jt_cmp jop_lt (je_f B ((t_bits c).up (by decide)) bp_bits rfl (ja_cons (je_v 0) (ja_cons (je_v 7) (ja_nil)))) (je_f B ((t_bits c).up (by decide)) bp_bits rfl (ja_cons (je_v 0) (ja_cons (je_v 6) (ja_nil)))) (nomark _))))) (jb_one (js_ret (je_v 6))) (jb_nil)) (jb_one (js_ret (je_kgetI c.t_UNSIGNED rfl (je_v 5) (fun _ _ => rfl))))))))
theorem t_common_in {P : Program} {w : World} {K : PySem.W.Frag} {mg : Str → Option Value} {base : Heap} (c : Ctx P w K mg) : FnT P w K mg base 3 "common_in" ["model", "first", "second"] (top 20) F_common_in := by
  obtain ⟨f, fd, hF, hm⟩ := c.d_common_in
  exact ⟨⟨f, fd, hF, hm, g_common_in c hF⟩, fun as s h => if_neg h⟩

def N_is_wrong : List Str := ["model", "first", "second"]
def b_is_wrong : SS := xSeq (xIf (tT (sF F_held (aCons (sV 0) (aCons (sF F_common_in (aCons (sV 0) (aCons (sV 1) (aCons (sV 2) (aNil))))) (aCons (sNeg (sK (.int 1))) (aNil)))))) (xRet (sK (.bool false))) (xNil)) (xRet (sOr (sF F_held (aCons (sV 0) (aCons (sV 1) (aCons (sNeg (sK (.int 1))) (aNil))))) (sF F_held (aCons (sV 0) (aCons (sV 2) (aCons (sNeg (sK (.int 1))) (aNil)))))))
def F_is_wrong : FS := dF 3 3 true b_is_wrong
theorem bp_is_wrong : BindP "is_wrong" (top 24) ["model", "first", "second"] := fun _ _ _ _ _ _ us hl => match us, hl with | [_, _, _], _ => rfl
theorem sc_is_wrong : FnScope N_is_wrong ["model", "first", "second"] (defScope (top 24)) := ⟨rfl, rfl, rfl, by decide +kernel, rfl, by decide +kernel, by decide +kernel⟩
theorem g_is_wrong {P : Program} {w : World} {K : PySem.W.Frag} {mg : Str → Option Value} {base : Heap} {f : Addr} {fd : FuncData} (c : Ctx P w K mg) (hF : Fun K "is_wrong" "is_wrong" (top 24) f fd) : FnG P w K mg base 4 f fd ["model", "first", "second"] (spF K 3 F_is_wrong) := by
  have nd := sc_is_wrong.nd
  exact fng_of (k := 3) hF sc_is_wrong rfl rfl fun cd A outer s H E B =>
    jb_cons (js_if (jt_t (je_f B ((t_held c).up (by decide)) bp_held rfl (ja_cons (je_v 0) (ja_cons (je_f B ((t_common_in c).up (by decide)) bp_common_in rfl (ja_cons (je_v 0) (ja_cons (je_v 1) (ja_cons (je_v 2) (ja_nil))))) (ja_cons (je_neg (je_int)) (ja_nil)))))) (jb_one (js_ret (je_bl))) (jb_nil)) (jb_one (js_ret (je_or (je_f B ((t_held c).up (by decide)) bp_held rfl (ja_cons (je_v 0) (ja_cons (je_v 1) (ja_cons (je_neg (je_int)) (ja_nil))))) (je_one (je_f B ((t_held c).up (by decide)) bp_held rfl (ja_cons (je_v 0) (ja_cons (je_v 2) (ja_cons (je_neg (je_int)) (ja_nil)))))))))
theorem t_is_wrong {P : Program} {w : World} {K : PySem.W.Frag} {mg : Str → Option Value} {base : Heap} (c : Ctx P w K mg) : FnT P w K mg base 4 "is_wrong" ["model", "first", "second"] (top 24) F_is_wrong := by
  obtain ⟨f, fd, hF, hm⟩ := c.d_is_wrong
  exact ⟨⟨f, fd, hF, hm, g_is_wrong c hF⟩, fun as s h => if_neg h⟩

def N_first_wrong : List Str := ["model", "first", "second"]
def b_first_wrong : SS := xSeq (xExp (sF F_check_pair (aCons (sV 0) (aCons (sV 1) (aCons (sV 2) (aNil)))))) (xSeq (xIf (tNot (tT (sF F_is_wrong (aCons (sV 0) (aCons (sV 1) (aCons (sV 2) (aNil))))))) (xRet (sK .none)) (xNil)) (xSeq (xIf (tT (sF F_held (aCons (sV 0) (aCons (sV 1) (aCons (sNeg (sK (.int 1))) (aNil)))))) (xRet (sTup (aCons (s2 oIx (sF F_limits_in (aCons (sV 0) (aCons (sV 1) (aNil)))) (sK (.int 0))) (aCons (sK (.int 0)) (aNil))))) (xNil)) (xRet (sTup (aCons (sK (.int 0)) (aCons (s2 oIx (sF F_limits_in (aCons (sV 0) (aCons (sV 2) (aNil)))) (sK (.int 0))) (aNil)))))))
def F_first_wrong : FS := dF 3 3 true b_first_wrong
theorem bp_first_wrong : BindP "first_wrong" (top 27) ["model", "first", "second"] := fun _ _ _ _ _ _ us hl => match us, hl with | [_, _, _], _ => rfl
theorem sc_first_wrong : FnScope N_first_wrong ["model", "first", "second"] (defScope (top 27)) := ⟨rfl, rfl, rfl, by decide +kernel, rfl, by decide +kernel, by decide +kernel⟩
theorem g_first_wrong {P : Program} {w : World} {K : PySem.W.Frag} {mg : Str → Option Value} {base : Heap} {f : Addr} {fd : FuncData} (c : Ctx P w K mg) (hF : Fun K "first_wrong" "first_wrong" (top 27) f fd) : FnG P w K mg base 5 f fd ["model", "first", "second"] (spF K 3 F_first_wrong) := by
  have nd := sc_first_wrong.nd
  exact fng_of (k := 4) hF sc_first_wrong rfl rfl fun cd A outer s H E B =>
    jb_cons (js_exp (je_f B ((t_check_pair c).up (by decide)) bp_check_pair rfl (ja_cons (je_v 0) (ja_cons (je_v 1) (ja_cons (je_v 2) (ja_nil)))))) (jb_cons (js_if (jt_not (jt_t (je_f B ((t_is_wrong c).up (by decide)) bp_is_wrong rfl (ja_cons (je_v 0) (ja_cons (je_v 1) (ja_cons (je_v 2) (ja_nil))))))) (jb_one (js_ret (je_non))) (jb_nil)) (jb_cons (js_if (jt_t (je_f B ((t_held c).up (by decide)) bp_held rfl (ja_cons (je_v 0) (ja_cons (je_v 1) (ja_cons (je_neg (je_int)) (ja_nil)))))) (jb_one (js_ret (je_tup (ja_cons (je_ix ix_all (je_f B ((t_limits_in c).up (by decide)) bp_limits_in rfl (ja_cons (je_v 0) (ja_cons (je_v 1) (ja_nil)))) (je_int) (fun _ _ => rfl)) (ja_cons (je_int) (ja_nil)))))) (jb_nil)) (jb_one (js_ret (je_tup (ja_cons (je_int) (ja_cons (je_ix ix_all (je_f B ((t_limits_in c).up (by decide)) bp_limits_in rfl (ja_cons (je_v 0) (ja_cons (je_v 2) (ja_nil)))) (je_int) (fun _ _ => rfl)) (ja_nil))))))))
theorem t_first_wrong {P : Program} {w : World} {K : PySem.W.Frag} {mg : Str → Option Value} {base : Heap} (c : Ctx P w K mg) : FnT P w K mg base 5 "first_wrong" ["model", "first", "second"] (top 27) F_first_wrong := by
  obtain ⟨f, fd, hF, hm⟩ := c.d_first_wrong
  exact ⟨⟨f, fd, hF, hm, g_first_wrong c hF⟩, fun as s h => if_neg h⟩

def N_into : List Str := ["model", "kind", "number", "low"]
def b_into : SS := xSeq (xSet 3 (s2 oIx (sF F_limits_in (aCons (sV 0) (aCons (sV 1) (aNil)))) (sK (.int 0)))) (xRet (s2 oAdd (s2 oMod (s2 oSub (sV 2) (sV 3)) (s2 oShl (sK (.int 1)) (sF F_bits (aCons (sV 0) (aCons (sV 1) (aNil)))))) (sV 3)))
def F_into : FS := dF 3 4 true b_into
theorem bp_into : BindP "into" (top 21) ["model", "kind", "number"] := fun _ _ _ _ _ _ us hl => match us, hl with | [_, _, _], _ => rfl
theorem sc_into : FnScope N_into ["model", "kind", "number"] (defScope (top 21)) := ⟨rfl, rfl, rfl, by decide +kernel, rfl, by decide +kernel, by decide +kernel⟩
theorem g_into {P : Program} {w : World} {K : PySem.W.Frag} {mg : Str → Option Value} {base : Heap} {f : Addr} {fd : FuncData} (c : Ctx P w K mg) (hF : Fun K "into" "into" (top 21) f fd) : FnG P w K mg base 3 f fd ["model", "kind", "number"] (spF K 3 F_into) := by
  have nd := sc_into.nd
  exact fng_of (k := 2) hF sc_into rfl rfl fun cd A outer s H E B =>
    jb_cons (js_set (i := 3) nd (je_ix ix_all (je_f B ((t_limits_in c).up (by decide)) bp_limits_in rfl (ja_cons (je_v 0) (ja_cons (je_v 1) (ja_nil)))) (je_int) (fun _ _ => rfl))) (jb_one (js_ret (je_2 jop_add (je_2 jop_mod (je_2 jop_sub (je_v 2) (je_v 3)) (je_2 jop_shl (je_int) (je_f B ((t_bits c).up (by decide)) bp_bits rfl (ja_cons (je_v 0) (ja_cons (je_v 1) (ja_nil)))))) (je_v 3))))
theorem t_into {P : Program} {w : World} {K : PySem.W.Frag} {mg : Str → Option Value} {base : Heap} (c : Ctx P w K mg) : FnT P w K mg base 3 "into" ["model", "kind", "number"] (top 21) F_into := by
  obtain ⟨f, fd, hF, hm⟩ := c.d_into
  exact ⟨⟨f, fd, hF, hm, g_into c hF⟩, fun as s h => if_neg h⟩

def N_count_under : List Str := ["negative", "high", "top", "whole", "rest"]
def b_count_under : SS := xSeq (xSet 3 (sCl cMin (aCons (sV 0) (aCons (s2 oSub (sV 2) (sV 1)) (aNil))))) (xSeq (xSet 4 (s2 oSub (sV 0) (sV 3))) (xRet (s2 oSub (s2 oAdd (s2 oMul (sV 3) (s2 oAdd (sV 1) (sK (.int 1)))) (s2 oMul (sV 4) (s2 oAdd (sV 2) (sK (.int 1))))) (s2 oDiv (s2 oSub (s2 oMul (sV 0) (s2 oAdd (sV 0) (sK (.int 1)))) (s2 oMul (sV 3) (s2 oAdd (sV 3) (sK (.int 1))))) (sK (.int 2))))))
def F_count_under : FS := dF 3 5 true b_count_under
theorem bp_count_under : BindP "count_under" (top 25) ["negative", "high", "top"] := fun _ _ _ _ _ _ us hl => match us, hl with | [_, _, _], _ => rfl
theorem sc_count_under : FnScope N_count_under ["negative", "high", "top"] (defScope (top 25)) := ⟨rfl, rfl, rfl, by decide +kernel, rfl, by decide +kernel, by decide +kernel⟩
theorem g_count_under {P : Program} {w : World} {K : PySem.W.Frag} {mg : Str → Option Value} {base : Heap} {f : Addr} {fd : FuncData} (c : Ctx P w K mg) (hF : Fun K "count_under" "count_under" (top 25) f fd) : FnG P w K mg base 1 f fd ["negative", "high", "top"] (spF K 3 F_count_under) := by
  have nd := sc_count_under.nd
  exact fng_of (k := 0) hF sc_count_under rfl rfl fun cd A outer s H E B =>
    jb_cons (js_set (i := 3) nd (je_cB (jc_min (Bd.fit B)) rfl c.n_min (by decide +kernel) (ja_cons (je_v 0) (ja_cons (je_2 jop_sub (je_v 2) (je_v 1)) (ja_nil))))) (jb_cons (js_set (i := 4) nd (je_2 jop_sub (je_v 0) (je_v 3))) (jb_one (js_ret (je_2 jop_sub (je_2 jop_add (je_2 jop_mul (je_v 3) (je_2 jop_add (je_v 1) (je_int))) (je_2 jop_mul (je_v 4) (je_2 jop_add (je_v 2) (je_int)))) (je_2 jop_div (je_2 jop_sub (je_2 jop_mul (je_v 0) (je_2 jop_add (je_v 0) (je_int))) (je_2 jop_mul (je_v 3) (je_2 jop_add (je_v 3) (je_int)))) (je_int))))))
theorem t_count_under {P : Program} {w : World} {K : PySem.W.Frag} {mg : Str → Option Value} {base : Heap} (c : Ctx P w K mg) : FnT P w K mg base 1 "count_under" ["negative", "high", "top"] (top 25) F_count_under := by
  obtain ⟨f, fd, hF, hm⟩ := c.d_count_under
  exact ⟨⟨f, fd, hF, hm, g_count_under c hF⟩, fun as s h => if_neg h⟩

def N_count_wrong : List Str := ["model", "first", "second", "greatest"]
def b_count_wrong : SS := xSeq (xExp (sF F_check_pair (aCons (sV 0) (aCons (sV 1) (aCons (sV 2) (aNil)))))) (xSeq (xIf (tNot (tT (sF F_is_wrong (aCons (sV 0) (aCons (sV 1) (aCons (sV 2) (aNil))))))) (xRet (sK (.int 0))) (xNil)) (xSeq (xSet 3 (sF F_into (aCons (sV 0) (aCons (sF F_common_in (aCons (sV 0) (aCons (sV 1) (aCons (sV 2) (aNil))))) (aCons (sNeg (sK (.int 1))) (aNil)))))) (xSeq (xIf (tT (sF F_held (aCons (sV 0) (aCons (sV 1) (aCons (sNeg (sK (.int 1))) (aNil)))))) (xRet (sF F_count_under (aCons (sNeg (s2 oIx (sF F_limits_in (aCons (sV 0) (aCons (sV 1) (aNil)))) (sK (.int 0)))) (aCons (s2 oIx (sF F_limits_in (aCons (sV 0) (aCons (sV 2) (aNil)))) (sK (.int 1))) (aCons (s2 oAdd (sV 3) (sK (.int 1))) (aNil)))))) (xNil)) (xRet (sF F_count_under (aCons (sNeg (s2 oIx (sF F_limits_in (aCons (sV 0) (aCons (sV 2) (aNil)))) (sK (.int 0)))) (aCons (s2 oIx (sF F_limits_in (aCons (sV 0) (aCons (sV 1) (aNil)))) (sK (.int 1))) (aCons (sV 3) (aNil)))))))))
def F_count_wrong : FS := dF 3 4 true b_count_wrong
theorem bp_count_wrong : BindP "count_wrong" (top 26) ["model", "first", "second"] := fun _ _ _ _ _ _ us hl => match us, hl with | [_, _, _], _ => rfl
theorem sc_count_wrong : FnScope N_count_wrong ["model", "first", "second"] (defScope (top 26)) := ⟨rfl, rfl, rfl, by decide +kernel, rfl, by decide +kernel, by decide +kernel⟩
theorem g_count_wrong {P : Program} {w : World} {K : PySem.W.Frag} {mg : Str → Option Value} {base : Heap} {f : Addr} {fd : FuncData} (c : Ctx P w K mg) (hF : Fun K "count_wrong" "count_wrong" (top 26) f fd) : FnG P w K mg base 5 f fd ["model", "first", "second"] (spF K 3 F_count_wrong) := by
  have nd := sc_count_wrong.nd
  exact fng_of (k := 4) hF sc_count_wrong rfl rfl fun cd A outer s H E B =>
    jb_cons (js_exp (je_f B ((t_check_pair c).up (by decide)) bp_check_pair rfl (ja_cons (je_v 0) (ja_cons (je_v 1) (ja_cons (je_v 2) (ja_nil)))))) (jb_cons (js_if (jt_not (jt_t (je_f B ((t_is_wrong c).up (by decide)) bp_is_wrong rfl (ja_cons (je_v 0) (ja_cons (je_v 1) (ja_cons (je_v 2) (ja_nil))))))) (jb_one (js_ret (je_int))) (jb_nil)) (jb_cons (js_set (i := 3) nd (je_f B ((t_into c).up (by decide)) bp_into rfl (ja_cons (je_v 0) (ja_cons (je_f B ((t_common_in c).up (by decide)) bp_common_in rfl (ja_cons (je_v 0) (ja_cons (je_v 1) (ja_cons (je_v 2) (ja_nil))))) (ja_cons (je_neg (je_int)) (ja_nil)))))) (jb_cons (js_if (jt_t (je_f B ((t_held c).up (by decide)) bp_held rfl (ja_cons (je_v 0) (ja_cons (je_v 1) (ja_cons (je_neg (je_int)) (ja_nil)))))) (jb_one (js_ret (je_f B ((t_count_under c).up (by decide)) bp_count_under rfl (ja_cons (je_neg (je_ix ix_all (je_f B ((t_limits_in c).up (by decide)) bp_limits_in rfl (ja_cons (je_v 0) (ja_cons (je_v 1) (ja_nil)))) (je_int) (fun _ _ => rfl))) (ja_cons (je_ix ix_all (je_f B ((t_limits_in c).up (by decide)) bp_limits_in rfl (ja_cons (je_v 0) (ja_cons (je_v 2) (ja_nil)))) (je_int) (fun _ _ => rfl)) (ja_cons (je_2 jop_add (je_v 3) (je_int)) (ja_nil))))))) (jb_nil)) (jb_one (js_ret (je_f B ((t_count_under c).up (by decide)) bp_count_under rfl (ja_cons (je_neg (je_ix ix_all (je_f B ((t_limits_in c).up (by decide)) bp_limits_in rfl (ja_cons (je_v 0) (ja_cons (je_v 2) (ja_nil)))) (je_int) (fun _ _ => rfl))) (ja_cons (je_ix ix_all (je_f B ((t_limits_in c).up (by decide)) bp_limits_in rfl (ja_cons (je_v 0) (ja_cons (je_v 1) (ja_nil)))) (je_int) (fun _ _ => rfl)) (ja_cons (je_v 3) (ja_nil))))))))))
theorem t_count_wrong {P : Program} {w : World} {K : PySem.W.Frag} {mg : Str → Option Value} {base : Heap} (c : Ctx P w K mg) : FnT P w K mg base 5 "count_wrong" ["model", "first", "second"] (top 26) F_count_wrong := by
  obtain ⟨f, fd, hF, hm⟩ := c.d_count_wrong
  exact ⟨⟨f, fd, hF, hm, g_count_wrong c hF⟩, fun as s h => if_neg h⟩
theorem bk_1 : BindK "first_wrong" (top 27) ["model", "first", "second"] 0 ["second", "first", "model"] [2, 1, 0] := fun _ _ _ _ _ _ us ws h1 h2 => match us, ws, h1, h2 with | [], [_, _, _], _, _ => rfl
theorem bk_2 : BindK "count_wrong" (top 26) ["model", "first", "second"] 0 ["second", "first", "model"] [2, 1, 0] := fun _ _ _ _ _ _ us ws h1 h2 => match us, ws, h1, h2 with | [], [_, _, _], _, _ => rfl

def N__law_right : List Str := ["pool", "book", "kept", "turn", "one", "two", "due", "told", "rank"]
def b__law_right : SS := xSeq (xSet 1 (sTup (aCons (sCl cTup (aCons (sCl cSrt (aCons (sLc (sRg1 (aCons (sK (.int 5)) (aNil))) (gN 8) (tY) (s2 oAdd (sK (.int 2)) (sF F__law_draw (aCons (sV 0) (aCons (s2 oSub (sK (.int 4)) (sCl cInt (aCons (s2 oLt (sV 8) (sK (.int 3))) (aNil)))) (aNil))))) [8]) (aNil))) (aNil))) (aCons (s2 oIx (sK (.str "su")) (sF F__law_draw (aCons (sV 0) (aCons (sK (.int 2)) (aNil))))) (aNil))))) (xSeq (xSet 2 (sCl cRepr (aCons (sV 1) (aNil)))) (xSeq (xFor (sRg1 (aCons (sK (.int 12)) (aNil))) (gN 3) (xSeq (xPar 4 5 (aCons (s2 oIx (sF F__law_kinds aNil) (sF F__law_draw (aCons (sV 0) (aCons (sK (.int 11)) (aNil))))) (aCons (s2 oIx (sF F__law_kinds aNil) (sF F__law_draw (aCons (sV 0) (aCons (sK (.int 11)) (aNil))))) (aNil)))) (xSeq (xSet 6 (sF F__law_tried (aCons (sV 1) (aCons (sV 4) (aCons (sV 5) (aNil)))))) (xSeq (xSet 7 (sLst (aCons (sF F_count_wrong (aCons (sV 1) (aCons (sV 4) (aCons (sV 5) (aNil))))) (aCons (sF F_first_wrong (aCons (sV 1) (aCons (sV 4) (aCons (sV 5) (aNil))))) (aNil))))) (xSeq (xIf (tOr (tB (s2 oNe (sCl cRepr (aCons (sV 7) (aNil))) (sCl cRepr (aCons (sV 6) (aNil))))) (tB (s2 oNe (sCl cRepr (aCons (sV 1) (aNil))) (sV 2)))) (xRet (sK (.bool false))) (xNil)) (xSeq (xSet 7 (sLst (aCons (sFK F_count_wrong 0 3 [2, 1, 0] aNil (aCons (sV 5) (aCons (sV 4) (aCons (sV 1) (aNil))))) (aCons (sFK F_first_wrong 0 3 [2, 1, 0] aNil (aCons (sV 5) (aCons (sV 4) (aCons (sV 1) (aNil))))) (aNil))))) (xIf (tB (s2 oNe (sCl cRepr (aCons (sV 7) (aNil))) (sCl cRepr (aCons (sV 6) (aNil))))) (xRet (sK (.bool false))) (xNil)))))))) (xRet (sK (.bool true)))))
def F__law_right : FS := dF 1 9 true b__law_right
theorem bp__law_right : BindP "_law_right" (top 40) ["pool"] := fun _ _ _ _ _ _ us hl => match us, hl with | [_], _ => rfl
theorem sc__law_right : FnScope N__law_right ["pool"] (defScope (top 40)) := ⟨rfl, rfl, rfl, by decide +kernel, rfl, by decide +kernel, by decide +kernel⟩
theorem g__law_right {P : Program} {w : World} {K : PySem.W.Frag} {mg : Str → Option Value} {base : Heap} {f : Addr} {fd : FuncData} (c : Ctx P w K mg) (hF : Fun K "_law_right" "_law_right" (top 40) f fd) : FnG P w K mg base 6 f fd ["pool"] (spF K 1 F__law_right) := by
  have nd := sc__law_right.nd
  exact fng_of (k := 5) hF sc__law_right rfl rfl fun cd A outer s H E B =>
    jb_cons (js_set (i := 1) nd (je_tup (ja_cons (je_cT jc_tup rfl c.n_tuple (by decide +kernel) (ja_cons (je_cB jc_srt rfl c.n_sorted (by decide +kernel) (ja_cons (je_lc (.inl rfl) rfl nd (own := [("rank", 8)]) (ji_rg1 rfl c.n_range (ja_cons (je_int) (ja_nil))) (blkOk_by (N := N__law_right) (sc := defScope (top 40)) (by decide +kernel)) (fun _ _ _ _ _ => jg_n (i := 8) nd) (fun _ _ _ _ _ => jts_n) (fun _ _ _ _ _ => je_2 jop_add (je_int) (je_f (Bd.blk B _ _ _ _ _) ((t__law_draw c).up (by decide)) bp__law_draw rfl (ja_cons (je_v 0) (ja_cons (je_2 jop_sub (je_int) (je_cT jc_int rfl c.n_int (by decide +kernel) (ja_cons (je_cmp jop_lt (je_v 8) (je_int) (nomark _)) (ja_nil)))) (ja_nil)))))) (ja_nil))) (ja_nil))) (ja_cons (je_ix ix_all (je_str) (je_f B ((t__law_draw c).up (by decide)) bp__law_draw rfl (ja_cons (je_v 0) (ja_cons (je_int) (ja_nil)))) (fun _ _ => rfl)) (ja_nil))))) (jb_cons (js_set (i := 2) nd (je_cB (jc_repr (Bd.fit B)) rfl c.n_repr (by decide +kernel) (ja_cons (je_v 1) (ja_nil)))) (jb_cons (js_for (Bd.own B) rfl (ji_rg1 rfl c.n_range (ja_cons (je_int) (ja_nil))) (jg_n (i := 3) nd) (jb_cons (js_par (i := 4) (j := 5) rfl nd (ja_cons (je_ix ix_all (je_f0 B ((t__law_kinds c).up (by decide)) bp__law_kinds rfl) (je_f B ((t__law_draw c).up (by decide)) bp__law_draw rfl (ja_cons (je_v 0) (ja_cons (je_int) (ja_nil)))) (fun _ _ => rfl)) (ja_cons (je_ix ix_all (je_f0 B ((t__law_kinds c).up (by decide)) bp__law_kinds rfl) (je_f B ((t__law_draw c).up (by decide)) bp__law_draw rfl (ja_cons (je_v 0) (ja_cons (je_int) (ja_nil)))) (fun _ _ => rfl)) (ja_nil)))) (jb_cons (js_set (i := 6) nd (je_f B ((t__law_tried c).up (by decide)) bp__law_tried rfl (ja_cons (je_v 1) (ja_cons (je_v 4) (ja_cons (je_v 5) (ja_nil)))))) (jb_cons (js_set (i := 7) nd (je_lst (ja_cons (je_f B ((t_count_wrong c).up (by decide)) bp_count_wrong rfl (ja_cons (je_v 1) (ja_cons (je_v 4) (ja_cons (je_v 5) (ja_nil))))) (ja_cons (je_f B ((t_first_wrong c).up (by decide)) bp_first_wrong rfl (ja_cons (je_v 1) (ja_cons (je_v 4) (ja_cons (je_v 5) (ja_nil))))) (ja_nil))))) (jb_cons (js_if (JW.jt (jw_or (jt_cmp (jop_ne (Bd.fit B)) (je_cB (jc_repr (Bd.fit B)) rfl c.n_repr (by decide +kernel) (ja_cons (je_v 7) (ja_nil))) (je_cB (jc_repr (Bd.fit B)) rfl c.n_repr (by decide +kernel) (ja_cons (je_v 6) (ja_nil))) (nomark _)) (jw_or1 (jt_cmp (jop_ne (Bd.fit B)) (je_cB (jc_repr (Bd.fit B)) rfl c.n_repr (by decide +kernel) (ja_cons (je_v 1) (ja_nil))) (je_v 2) (nomark _))))) (jb_one (js_ret (je_bl))) (jb_nil)) (jb_cons (js_set (i := 7) nd (je_lst (ja_cons (je_fk0 (pm := [2, 1, 0]) B ((t_count_wrong c).up (by decide)) bk_2 rfl (jk_cons (je_v 5) (jk_cons (je_v 4) (jk_cons (je_v 1) (jk_nil))))) (ja_cons (je_fk0 (pm := [2, 1, 0]) B ((t_first_wrong c).up (by decide)) bk_1 rfl (jk_cons (je_v 5) (jk_cons (je_v 4) (jk_cons (je_v 1) (jk_nil))))) (ja_nil))))) (jb_one (js_if (jt_cmp (jop_ne (Bd.fit B)) (je_cB (jc_repr (Bd.fit B)) rfl c.n_repr (by decide +kernel) (ja_cons (je_v 7) (ja_nil))) (je_cB (jc_repr (Bd.fit B)) rfl c.n_repr (by decide +kernel) (ja_cons (je_v 6) (ja_nil))) (nomark _)) (jb_one (js_ret (je_bl))) (jb_nil))))))))) (jb_one (js_ret (je_bl)))))
theorem t__law_right {P : Program} {w : World} {K : PySem.W.Frag} {mg : Str → Option Value} {base : Heap} (c : Ctx P w K mg) : FnT P w K mg base 6 "_law_right" ["pool"] (top 40) F__law_right := by
  obtain ⟨f, fd, hF, hm⟩ := c.d__law_right
  exact ⟨⟨f, fd, hF, hm, g__law_right c hF⟩, fun as s h => if_neg h⟩

def N_law : List Str := ["script", "at", "pool", "turn", "book", "told"]
def b_law : SS := xSeq (xFor (sRg1 (aCons (sCl cMax (aCons (sK (.int 1)) (aCons (sCl cMin (aCons (sK (.int 6)) (aCons (sCl cLen (aCons (sV 0) (aNil))) (aNil)))) (aNil)))) (aNil))) (gN 1) (xSeq (xSet 2 (sF F__law_pool (aCons (sV 0) (aCons (sV 1) (aNil))))) (xFor (sRg1 (aCons (sK (.int 2)) (aNil))) (gN 3) (xIf (tNot (tT (sF F__law_right (aCons (sV 2) (aNil))))) (xRet (sK (.bool false))) (xNil))))) (xSeq (xSet 4 (sTup (aCons (sTup (aCons (sK (.int 2)) (aCons (sK (.int 2)) (aCons (sK (.int 2)) (aCons (sK (.int 3)) (aCons (sK (.int 3)) (aNil))))))) (aCons (sK (.str "s")) (aNil))))) (xSeq (xSet 5 (sLst (aCons (sF F_count_wrong (aCons (sV 4) (aCons (sK (.str "int")) (aCons (sK (.str "uint")) (aNil))))) (aCons (sF F_first_wrong (aCons (sV 4) (aCons (sK (.str "int")) (aCons (sK (.str "uint")) (aNil))))) (aCons (sF F_count_wrong (aCons (sV 4) (aCons (sK (.str "uint")) (aCons (sK (.str "int")) (aNil))))) (aNil)))))) (xRet (s2 oEq (s2 oAdd (sV 5) (sLst (aCons (sF F_count_wrong (aCons (sV 4) (aCons (sK (.str "uint")) (aCons (sK (.str "long")) (aNil))))) (aNil)))) (sLst (aCons (sK (.int 7)) (aCons (sTup (aCons (sNeg (sK (.int 2))) (aCons (sK (.int 0)) (aNil)))) (aCons (sK (.int 5)) (aCons (sK (.int 0)) (aNil))))))))))
def F_law : FS := dF 1 6 true b_law
theorem bp_law : BindP "law" (top 41) ["script"] := fun _ _ _ _ _ _ us hl => match us, hl with | [_], _ => rfl
theorem sc_law : FnScope N_law ["script"] (defScope (top 41)) := ⟨rfl, rfl, rfl, by decide +kernel, rfl, by decide +kernel, by decide +kernel⟩
theorem g_law {P : Program} {w : World} {K : PySem.W.Frag} {mg : Str → Option Value} {base : Heap} {f : Addr} {fd : FuncData} (c : Ctx P w K mg) (hF : Fun K "law" "law" (top 41) f fd) : FnG P w K mg base 7 f fd ["script"] (spF K 1 F_law) := by
  have nd := sc_law.nd
  exact fng_of (k := 6) hF sc_law rfl rfl fun cd A outer s H E B =>
    jb_cons (js_for (Bd.own B) rfl (ji_rg1 rfl c.n_range (ja_cons (je_cB (jc_max (Bd.fit B)) rfl c.n_max (by decide +kernel) (ja_cons (je_int) (ja_cons (je_cB (jc_min (Bd.fit B)) rfl c.n_min (by decide +kernel) (ja_cons (je_int) (ja_cons (je_cB jc_len rfl c.n_len (by decide +kernel) (ja_cons (je_v 0) (ja_nil))) (ja_nil)))) (ja_nil)))) (ja_nil))) (jg_n (i := 1) nd) (jb_cons (js_set (i := 2) nd (je_f B ((t__law_pool c).up (by decide)) bp__law_pool rfl (ja_cons (je_v 0) (ja_cons (je_v 1) (ja_nil))))) (jb_one (js_for (Bd.own B) rfl (ji_rg1 rfl c.n_range (ja_cons (je_int) (ja_nil))) (jg_n (i := 3) nd) (jb_one (js_if (jt_not (jt_t (je_f B ((t__law_right c).up (by decide)) bp__law_right rfl (ja_cons (je_v 2) (ja_nil))))) (jb_one (js_ret (je_bl))) (jb_nil))))))) (jb_cons (js_set (i := 4) nd (je_tup (ja_cons (je_tup (ja_cons (je_int) (ja_cons (je_int) (ja_cons (je_int) (ja_cons (je_int) (ja_cons (je_int) (ja_nil))))))) (ja_cons (je_str) (ja_nil))))) (jb_cons (js_set (i := 5) nd (je_lst (ja_cons (je_f B ((t_count_wrong c).up (by decide)) bp_count_wrong rfl (ja_cons (je_v 4) (ja_cons (je_str) (ja_cons (je_str) (ja_nil))))) (ja_cons (je_f B ((t_first_wrong c).up (by decide)) bp_first_wrong rfl (ja_cons (je_v 4) (ja_cons (je_str) (ja_cons (je_str) (ja_nil))))) (ja_cons (je_f B ((t_count_wrong c).up (by decide)) bp_count_wrong rfl (ja_cons (je_v 4) (ja_cons (je_str) (ja_cons (je_str) (ja_nil))))) (ja_nil)))))) (jb_one (js_ret (je_cmp (jop_eq (Bd.fit B)) (je_2 jop_add (je_v 5) (je_lst (ja_cons (je_f B ((t_count_wrong c).up (by decide)) bp_count_wrong rfl (ja_cons (je_v 4) (ja_cons (je_str) (ja_cons (je_str) (ja_nil))))) (ja_nil)))) (je_lst (ja_cons (je_int) (ja_cons (je_tup (ja_cons (je_neg (je_int)) (ja_cons (je_int) (ja_nil)))) (ja_cons (je_int) (ja_cons (je_int) (ja_nil)))))) (nomark _))))))
theorem t_law {P : Program} {w : World} {K : PySem.W.Frag} {mg : Str → Option Value} {base : Heap} (c : Ctx P w K mg) : FnT P w K mg base 7 "law" ["script"] (top 41) F_law := by
  obtain ⟨f, fd, hF, hm⟩ := c.d_law
  exact ⟨⟨f, fd, hF, hm, g_law c hF⟩, fun as s h => if_neg h⟩

/-! the head -/
def dOf (x : Str) (i : Nat) : He.DefD := ⟨(x, none), x, x, defArgs (top i), defBody (top i), defScope (top i), [], []⟩
def fn : List He.DefD := [dOf "_law_pool" 29, dOf "_law_draw" 30, dOf "_law_kinds" 31, dOf "_law_bits" 33, dOf "_law_is_unsigned" 34, dOf "_law_ends" 35, dOf "_law_common" 38, dOf "_law_into" 37, dOf "_law_tried" 39, dOf "check_widths" 12, dOf "check_model" 13, dOf "check_kind" 14, dOf "check_pair" 23, dOf "bits" 16, dOf "is_signed" 15, dOf "limits_in" 17, dOf "held" 18, dOf "promoted_in" 19, dOf "common_in" 20, dOf "is_wrong" 24, dOf "first_wrong" 27, dOf "into" 21, dOf "count_under" 25, dOf "count_wrong" 26, dOf "_law_right" 40, dOf "law" 41]
def fa : List He.Fa := [.glo "_law_pool", .glo "_law_draw", .glo "_law_kinds", .glo "_law_bits", .glo "_law_is_unsigned", .glo "_law_ends", .glo "_law_common", .glo "_law_into", .glo "_law_tried", .glo "check_widths", .glo "check_model", .glo "check_kind", .glo "check_pair", .glo "bits", .glo "is_signed", .glo "limits_in", .glo "held", .glo "promoted_in", .glo "common_in", .glo "is_wrong", .glo "first_wrong", .glo "into", .glo "count_under", .glo "count_wrong", .glo "_law_right", .glo "law", .free "abs", .free "enumerate", .free "int", .free "len", .free "max", .free "min", .free "range", .free "repr", .free "sorted", .free "tuple", .glo "RANKS", .glo "SIGNED", .glo "UNSIGNED"]
def ts : List He.Tab := [(fun K => He.ga K "RANKS", ["char", "schar", "uchar", "short", "ushort", "int", "uint", "long", "ulong", "wide", "uwide"])]
def ex (K : PySem.W.Frag) : Bool := entB (tabEs K (He.ga K "RANKS")) k_RANKS && (tabIB K (He.ga K "SIGNED") k_SIGNED && (tabIB K (He.ga K "UNSIGNED") k_UNSIGNED && (cst1 K "FEWEST" k_FEWEST && (cst1 K "INT" k_INT && (cst1 K "MOST" k_MOST && (cst1 K "WIDTHS" k_WIDTHS && (true)))))))
abbrev R : PySem.W.OpenRow := PySem.W.OpenLaw.row PySem.Challenge.rw_castforms_k44_mixed_comparisons_by_tryin
abbrev hk : PySem.W.Hook := He.hookX 4 fa fn ts [] ex
def ob (s : PySem.W.SharedT) : hk.α := He.obsX 4 fa fn ts [] ex (HandSHeadRun.getT s)
theorem ob_eq (s : PySem.W.SharedT) : ob s = hk.obs s.abs := He.obsX_eq (HandSHeadRun.getT_eq s)
theorem ctx {P : Program} {w : World} {K : PySem.W.Frag} {h hh : Heap} {mg : Str → Option Value} (X : K.In h) (G : h.Ns mainGlobals mg) (c : He.SaysX fa fn ts [] ex w hh K) : Ctx P w K mg where
  d__law_pool := by
    obtain ⟨fd, F⟩ := c.t.d.def_ 0 (d := dOf "_law_pool" 29) rfl
    exact ⟨_, fd, fun_of F, He.glo_ok X G (c.t.d.fact 0 (f := .glo "_law_pool") rfl)⟩
  d__law_draw := by
    obtain ⟨fd, F⟩ := c.t.d.def_ 1 (d := dOf "_law_draw" 30) rfl
    exact ⟨_, fd, fun_of F, He.glo_ok X G (c.t.d.fact 1 (f := .glo "_law_draw") rfl)⟩
  d__law_kinds := by
    obtain ⟨fd, F⟩ := c.t.d.def_ 2 (d := dOf "_law_kinds" 31) rfl
    exact ⟨_, fd, fun_of F, He.glo_ok X G (c.t.d.fact 2 (f := .glo "_law_kinds") rfl)⟩
  d__law_bits := by
    obtain ⟨fd, F⟩ := c.t.d.def_ 3 (d := dOf "_law_bits" 33) rfl
    exact ⟨_, fd, fun_of F, He.glo_ok X G (c.t.d.fact 3 (f := .glo "_law_bits") rfl)⟩
  d__law_is_unsigned := by
    obtain ⟨fd, F⟩ := c.t.d.def_ 4 (d := dOf "_law_is_unsigned" 34) rfl
    exact ⟨_, fd, fun_of F, He.glo_ok X G (c.t.d.fact 4 (f := .glo "_law_is_unsigned") rfl)⟩
  d__law_ends := by
    obtain ⟨fd, F⟩ := c.t.d.def_ 5 (d := dOf "_law_ends" 35) rfl
    exact ⟨_, fd, fun_of F, He.glo_ok X G (c.t.d.fact 5 (f := .glo "_law_ends") rfl)⟩
  d__law_common := by
    obtain ⟨fd, F⟩ := c.t.d.def_ 6 (d := dOf "_law_common" 38) rfl
    exact ⟨_, fd, fun_of F, He.glo_ok X G (c.t.d.fact 6 (f := .glo "_law_common") rfl)⟩
  d__law_into := by
    obtain ⟨fd, F⟩ := c.t.d.def_ 7 (d := dOf "_law_into" 37) rfl
    exact ⟨_, fd, fun_of F, He.glo_ok X G (c.t.d.fact 7 (f := .glo "_law_into") rfl)⟩
  d__law_tried := by
    obtain ⟨fd, F⟩ := c.t.d.def_ 8 (d := dOf "_law_tried" 39) rfl
    exact ⟨_, fd, fun_of F, He.glo_ok X G (c.t.d.fact 8 (f := .glo "_law_tried") rfl)⟩
  d_check_widths := by
    obtain ⟨fd, F⟩ := c.t.d.def_ 9 (d := dOf "check_widths" 12) rfl
    exact ⟨_, fd, fun_of F, He.glo_ok X G (c.t.d.fact 9 (f := .glo "check_widths") rfl)⟩
  d_check_model := by
    obtain ⟨fd, F⟩ := c.t.d.def_ 10 (d := dOf "check_model" 13) rfl
    exact ⟨_, fd, fun_of F, He.glo_ok X G (c.t.d.fact 10 (f := .glo "check_model") rfl)⟩
  d_check_kind := by
    obtain ⟨fd, F⟩ := c.t.d.def_ 11 (d := dOf "check_kind" 14) rfl
    exact ⟨_, fd, fun_of F, He.glo_ok X G (c.t.d.fact 11 (f := .glo "check_kind") rfl)⟩
  d_check_pair := by
    obtain ⟨fd, F⟩ := c.t.d.def_ 12 (d := dOf "check_pair" 23) rfl
    exact ⟨_, fd, fun_of F, He.glo_ok X G (c.t.d.fact 12 (f := .glo "check_pair") rfl)⟩
  d_bits := by
    obtain ⟨fd, F⟩ := c.t.d.def_ 13 (d := dOf "bits" 16) rfl
    exact ⟨_, fd, fun_of F, He.glo_ok X G (c.t.d.fact 13 (f := .glo "bits") rfl)⟩
  d_is_signed := by
    obtain ⟨fd, F⟩ := c.t.d.def_ 14 (d := dOf "is_signed" 15) rfl
    exact ⟨_, fd, fun_of F, He.glo_ok X G (c.t.d.fact 14 (f := .glo "is_signed") rfl)⟩
  d_limits_in := by
    obtain ⟨fd, F⟩ := c.t.d.def_ 15 (d := dOf "limits_in" 17) rfl
    exact ⟨_, fd, fun_of F, He.glo_ok X G (c.t.d.fact 15 (f := .glo "limits_in") rfl)⟩
  d_held := by
    obtain ⟨fd, F⟩ := c.t.d.def_ 16 (d := dOf "held" 18) rfl
    exact ⟨_, fd, fun_of F, He.glo_ok X G (c.t.d.fact 16 (f := .glo "held") rfl)⟩
  d_promoted_in := by
    obtain ⟨fd, F⟩ := c.t.d.def_ 17 (d := dOf "promoted_in" 19) rfl
    exact ⟨_, fd, fun_of F, He.glo_ok X G (c.t.d.fact 17 (f := .glo "promoted_in") rfl)⟩
  d_common_in := by
    obtain ⟨fd, F⟩ := c.t.d.def_ 18 (d := dOf "common_in" 20) rfl
    exact ⟨_, fd, fun_of F, He.glo_ok X G (c.t.d.fact 18 (f := .glo "common_in") rfl)⟩
  d_is_wrong := by
    obtain ⟨fd, F⟩ := c.t.d.def_ 19 (d := dOf "is_wrong" 24) rfl
    exact ⟨_, fd, fun_of F, He.glo_ok X G (c.t.d.fact 19 (f := .glo "is_wrong") rfl)⟩
  d_first_wrong := by
    obtain ⟨fd, F⟩ := c.t.d.def_ 20 (d := dOf "first_wrong" 27) rfl
    exact ⟨_, fd, fun_of F, He.glo_ok X G (c.t.d.fact 20 (f := .glo "first_wrong") rfl)⟩
  d_into := by
    obtain ⟨fd, F⟩ := c.t.d.def_ 21 (d := dOf "into" 21) rfl
    exact ⟨_, fd, fun_of F, He.glo_ok X G (c.t.d.fact 21 (f := .glo "into") rfl)⟩
  d_count_under := by
    obtain ⟨fd, F⟩ := c.t.d.def_ 22 (d := dOf "count_under" 25) rfl
    exact ⟨_, fd, fun_of F, He.glo_ok X G (c.t.d.fact 22 (f := .glo "count_under") rfl)⟩
  d_count_wrong := by
    obtain ⟨fd, F⟩ := c.t.d.def_ 23 (d := dOf "count_wrong" 26) rfl
    exact ⟨_, fd, fun_of F, He.glo_ok X G (c.t.d.fact 23 (f := .glo "count_wrong") rfl)⟩
  d__law_right := by
    obtain ⟨fd, F⟩ := c.t.d.def_ 24 (d := dOf "_law_right" 40) rfl
    exact ⟨_, fd, fun_of F, He.glo_ok X G (c.t.d.fact 24 (f := .glo "_law_right") rfl)⟩
  d_law := by
    obtain ⟨fd, F⟩ := c.t.d.def_ 25 (d := dOf "law" 41) rfl
    exact ⟨_, fd, fun_of F, He.glo_ok X G (c.t.d.fact 25 (f := .glo "law") rfl)⟩
  n_abs := He.free_ok X G (c.t.d.fact 26 (f := .free "abs") rfl)
  n_enumerate := He.free_ok X G (c.t.d.fact 27 (f := .free "enumerate") rfl)
  n_int := He.free_ok X G (c.t.d.fact 28 (f := .free "int") rfl)
  n_len := He.free_ok X G (c.t.d.fact 29 (f := .free "len") rfl)
  n_max := He.free_ok X G (c.t.d.fact 30 (f := .free "max") rfl)
  n_min := He.free_ok X G (c.t.d.fact 31 (f := .free "min") rfl)
  n_range := He.free_ok X G (c.t.d.fact 32 (f := .free "range") rfl)
  n_repr := He.free_ok X G (c.t.d.fact 33 (f := .free "repr") rfl)
  n_sorted := He.free_ok X G (c.t.d.fact 34 (f := .free "sorted") rfl)
  n_tuple := He.free_ok X G (c.t.d.fact 35 (f := .free "tuple") rfl)
  t_RANKS := ⟨_, He.glo_ok X G (c.t.d.fact 36 (f := .glo "RANKS") rfl), .of (c.t.tab 0 rfl) ((and_l c.more))⟩
  t_SIGNED := ⟨_, He.glo_ok X G (c.t.d.fact 37 (f := .glo "SIGNED") rfl), .of ((and_l (and_r c.more)))⟩
  t_UNSIGNED := ⟨_, He.glo_ok X G (c.t.d.fact 38 (f := .glo "UNSIGNED") rfl), .of ((and_l (and_r (and_r c.more))))⟩
  c_FEWEST := cst1_ok X G ((and_l (and_r (and_r (and_r c.more)))))
  c_INT := cst1_ok X G ((and_l (and_r (and_r (and_r (and_r c.more))))))
  c_MOST := cst1_ok X G ((and_l (and_r (and_r (and_r (and_r (and_r c.more)))))))
  c_WIDTHS := cst1_ok X G ((and_l (and_r (and_r (and_r (and_r (and_r (and_r c.more))))))))
end K44


set_option maxHeartbeats 4000000
namespace K44
open PySem PySem.Spec PyProof.Rows L2 Vi
theorem pow5_sm {st : Sto} {i : Int} (h0 : 0 ≤ i) (h : i < 2 ^ 250) : oPow (.d (.int i)) (.d (.int 5)) st = some (.d (.int (i ^ 5)), st) := pow_ii (by decide) (by
  have a := nlog (k := 249) h0 h
  omega)
theorem draw_ok : DrawSp F__law_draw := by
  intro st i b lim h hl hl2
  obtain ⟨D, S, C, hA, hD, hS, hS2, hC, hC2⟩ := h.ex
  have hA1 : At ⟨st.obs, st.n⟩ i [.d (.int D), .d (.int S), .d (.int C)] := hA
  have ll : lim.natAbs.log2 < 9000 := Nat.lt_of_lt_of_le (nlog (k := 249) (Int.le_of_lt hl) hl2) (by decide)
  have i0 := ix_at (k := 0) hA1 rfl
  by_cases h0 : 0 < D
  · refine ⟨D % lim, _, dF_rt rfl (s := (⟨st.obs, st.n⟩ : Sto).put i (.l [.d (.int (D / lim)), .d (.int S), .d (.int C)])) ?_ rfl, Int.emod_nonneg _ (Int.ne_of_gt hl), Int.emod_lt_of_pos _ hl, Grow.cut Grow.put, ?_⟩
    · simp [b__law_draw, i0, h0, mod_ii hl, div_ii hl ll, set_at hA1 (k := 0) (j := 0) rfl]
    · exact ⟨D / lim, S, C, At.cut hA1.put hA.lt, Int.ediv_nonneg hD (Int.le_of_lt hl), hS, hS2, hC, by omega⟩
  · have at2 := hA1.put (ys := [.d (.int D), .d (.int S), .d (.int (C + 1))])
    have i1 := ix_at (k := 1) at2 rfl
    have i2 := ix_at (k := 2) at2 rfl
    have i2' := ix_at (k := 2) hA1 rfl
    have c1 : C + 1 < 2 ^ 250 := Int.lt_of_lt_of_le (b := 2 ^ 51) (by omega) (by decide)
    have m1 := mul_sm (i := 15487039) (j := C + 1) (st := (⟨st.obs, st.n⟩ : Sto).put i (.l [.d (.int D), .d (.int S), .d (.int (C + 1))])) (by decide) (by decide) (by omega) c1
    have m2 := mul_sm (i := 32452867) (j := C + 1) (st := (⟨st.obs, st.n⟩ : Sto).put i (.l [.d (.int D), .d (.int S), .d (.int (C + 1))])) (by decide) (by decide) (by omega) c1
    have p1 := pow3_sm (i := S + 15487039 * (C + 1)) (st := (⟨st.obs, st.n⟩ : Sto).put i (.l [.d (.int D), .d (.int S), .d (.int (C + 1))])) (by omega) (Int.lt_of_lt_of_le (b := 2 ^ 90) (by omega) (by decide))
    have r0 : 0 ≤ (S + 15487039 * (C + 1)) ^ 3 % 162259276829213363391578010288127 := Int.emod_nonneg _ (by decide)
    have r1 : (S + 15487039 * (C + 1)) ^ 3 % 162259276829213363391578010288127 < 162259276829213363391578010288127 := Int.emod_lt_of_pos _ (by decide)
    have p2 := pow5_sm (i := (S + 15487039 * (C + 1)) ^ 3 % 162259276829213363391578010288127 + 32452867 * (C + 1)) (st := (⟨st.obs, st.n⟩ : Sto).put i (.l [.d (.int D), .d (.int S), .d (.int (C + 1))])) (by omega) (Int.lt_of_lt_of_le (b := 2 ^ 120) (by omega) (by decide))
    refine ⟨_, _, dF_rt rfl (s := (⟨st.obs, st.n⟩ : Sto).put i (.l [.d (.int D), .d (.int S), .d (.int (C + 1))])) (v := .d (.int (((S + 15487039 * (C + 1)) ^ 3 % 162259276829213363391578010288127 + 32452867 * (C + 1)) ^ 5 % 170141183460469231731687303715884105727 / 1048576 % lim))) ?_ rfl, Int.emod_nonneg _ (Int.ne_of_gt hl), Int.emod_lt_of_pos _ hl, Grow.cut Grow.put, ?_⟩
    · show b__law_draw [some (.r i), some (.d (.int lim)), none, none] ⟨st.obs, st.n⟩ = _
      have e1 := mod_ii (i := (S + 15487039 * (C + 1)) ^ 3) (j := 162259276829213363391578010288127) (st := (⟨st.obs, st.n⟩ : Sto).put i (.l [.d (.int D), .d (.int S), .d (.int (C + 1))])) (by decide)
      have e2 := mod_ii (i := ((S + 15487039 * (C + 1)) ^ 3 % 162259276829213363391578010288127 + 32452867 * (C + 1)) ^ 5) (j := 170141183460469231731687303715884105727) (st := (⟨st.obs, st.n⟩ : Sto).put i (.l [.d (.int D), .d (.int S), .d (.int (C + 1))])) (by decide)
      have e3 := div_ii (i := ((S + 15487039 * (C + 1)) ^ 3 % 162259276829213363391578010288127 + 32452867 * (C + 1)) ^ 5 % 170141183460469231731687303715884105727) (j := 1048576) (st := (⟨st.obs, st.n⟩ : Sto).put i (.l [.d (.int D), .d (.int S), .d (.int (C + 1))])) (by decide) (by decide)
      simp only [bind_ok, bindN_ok, toS_ok, lift_some, sK_ap, sV_ap, s2_ap, sF_ap, aNil_ap, aCons_ap, sTup_ap, sLst_ap, sLstM_ap, sNeg_ap, sIf_ap, sCl_ap, sKget_ap, sKgetI_ap, sKin_ap, sKnin_ap, sIsi_ap, sCh_ap, sFK_ap, sMt_ap, sNot_ap, sAnd_ap, sOr_ap, tB_ap, tT_ap, tNot_ap, tAnd_ap, tOr_ap, oNo_ap, oSo_ap, sSl_ap, sIt_ap, sEnm_ap, sRg1_ap, sRg2_ap, xSeq_ap, xNil_ap, xRet_ap, xRetN_ap, xExp_ap, xSet_ap, xAsg_ap, xPar_ap, xPar3_ap, xIf_ap, xPut_ap, xFor_ap, gN_ap, gsN_ap, gsC_ap, gT_ap, add_ii, sub_ii, lt_ii, le_ii, gt_ii, ge_ii, eq_ii, ne_ii, eq_ss, ne_ss, mkT_ap, allD_nil, allD_d, items_tup, items_lst, walk_lst, walk_tup, walk_s, froz_tup, froz_lst, tru_bl, tru_int, tru_no, len_tup, len_lst, len_s, min_ii, max_ii, int_bl, int_in, tuple_tup, tuple_lst, tyN_int, tyN_tup, tyN_str, kit_ib, kit_ii, kit_tt, kit_st, kit_it, enum_nil, enum_cons, for_nil, List.getElem?_cons_zero, List.getElem?_cons_succ, List.set_cons_zero, List.set_cons_succ, List.length_cons, List.length_nil, Option.map_some, Option.bind_some, Bool.not_true, Bool.not_false, decide_true, decide_false, decide_eq_true_eq, if_true, if_false, Bool.false_eq_true, Nat.reduceAdd, Nat.reduceSub, Nat.reduceLeDiff, Nat.reduceMul, Nat.reduceLT, Nat.reduceEqDiff, reduceIte, Bool.true_eq_false, and_true, true_and, and_self, Option.isSome_some, Option.isSome_none, List.append_nil, List.nil_append, List.cons_append, Nat.zero_add, Nat.add_zero, eq_self, Int.cast_ofNat_Int, Int.reduceEq, Int.reduceNe, Int.reduceLT, Int.reduceLE, Int.reduceNeg, Int.reduceAdd, Int.reduceSub, Int.reduceMul, b__law_draw, i0, h0, i1, i2, i2', set_at hA1 (k := 2) (j := 2) rfl, List.set, m1, m2, p1, p2, e1, e2, e3, mod_ii hl]
    · exact ⟨D, S, C + 1, At.cut at2 hA.lt, hD, hS, hS2, by omega, by omega⟩

theorem pool_ok (ns : List Int) (at_ : Nat) (hat : at_ ≤ 10) (st : Sto) : ∃ D S : Int, F__law_pool [.s ns, .d (.int (at_ : Nat))] st = .ok (.r st.n) (st.push (.l [.d (.int D), .d (.int S), .d (.int 0)])) ∧ 0 ≤ D ∧ 0 ≤ S ∧ S < 2 ^ 62 := by
  obtain ⟨cell, hc⟩ : ∃ cell : Int, cell = if at_ < ns.length then ns.getD at_ 0 else 0 := ⟨_, rfl⟩
  have p18 : ∀ st, oPow (.d (.int 10)) (.d (.int 18)) st = some (.d (.int (10 ^ 18)), st) := fun st => pow_ii (by decide) (by decide)
  have md := mod_ii (st := st) (i := cell) (j := 2305843009213693951) (by decide)
  have ml := mul_sm (st := st) (i := 2976221207) (j := (at_ : Int) + 1) (by decide) (by decide) (by omega) (Int.lt_of_lt_of_le (b := 100) (by omega) (by decide))
  have q0 : 0 ≤ cell % 2305843009213693951 := Int.emod_nonneg _ (by decide)
  have q1 : cell % 2305843009213693951 < 2305843009213693951 := Int.emod_lt_of_pos _ (by decide)
  have ab : ∀ i : Int, cAbs [.d (.int i)] st = some (.d (.int (if i < 0 then -i else i)), st) := fun i => rfl
  have z3 : 3 ≤ sizeLine := by decide
  refine ⟨if (if cell < 0 then -cell else cell) - 10 ^ 18 > 0 then (if cell < 0 then -cell else cell) - 10 ^ 18 else 0, cell % 2305843009213693951 + 2976221207 * ((at_ : Int) + 1), dF_rtN rfl ?_, by split <;> omega, by omega, by omega⟩
  show b__law_pool [some (.s ns), some (.d (.int (at_ : Nat))), none] st = _
  by_cases h : at_ < ns.length
  · have h' : (at_ : Int) < (ns.length : Int) := by omega
    have ix : oIx (.s ns) (.d (.int (at_ : Nat))) st = some (.d (.int cell), st) := by
      show (itemsV (.s ns) st).bind (fun xs => (atI xs (at_ : Nat)).map fun v => (v, st)) = _
      show (atI (ns.map fun n => Va.d (.int n)) (at_ : Nat)).map (fun v => (v, st)) = _
      rw [atI_nat (j := at_) (v := .d (.int cell)) (by rw [List.getElem?_map, List.getElem?_eq_getElem h, hc, if_pos h, List.getD_eq_getElem?_getD, List.getElem?_eq_getElem h]; rfl)]
      rfl
    simp only [bind_ok, bindN_ok, toS_ok, lift_some, sK_ap, sV_ap, s2_ap, sF_ap, aNil_ap, aCons_ap, sTup_ap, sLst_ap, sLstM_ap, sNeg_ap, sIf_ap, sCl_ap, sKget_ap, sKgetI_ap, sKin_ap, sKnin_ap, sIsi_ap, sCh_ap, sFK_ap, sMt_ap, sNot_ap, sAnd_ap, sOr_ap, tB_ap, tT_ap, tNot_ap, tAnd_ap, tOr_ap, oNo_ap, oSo_ap, sSl_ap, sIt_ap, sEnm_ap, sRg1_ap, sRg2_ap, xSeq_ap, xNil_ap, xRet_ap, xRetN_ap, xExp_ap, xSet_ap, xAsg_ap, xPar_ap, xPar3_ap, xIf_ap, xPut_ap, xFor_ap, gN_ap, gsN_ap, gsC_ap, gT_ap, add_ii, sub_ii, lt_ii, le_ii, gt_ii, ge_ii, eq_ii, ne_ii, eq_ss, ne_ss, mkT_ap, allD_nil, allD_d, items_tup, items_lst, walk_lst, walk_tup, walk_s, froz_tup, froz_lst, tru_bl, tru_int, tru_no, len_tup, len_lst, len_s, min_ii, max_ii, int_bl, int_in, tuple_tup, tuple_lst, tyN_int, tyN_tup, tyN_str, kit_ib, kit_ii, kit_tt, kit_st, kit_it, enum_nil, enum_cons, for_nil, List.getElem?_cons_zero, List.getElem?_cons_succ, List.set_cons_zero, List.set_cons_succ, List.length_cons, List.length_nil, Option.map_some, Option.bind_some, Bool.not_true, Bool.not_false, decide_true, decide_false, decide_eq_true_eq, if_true, if_false, Bool.false_eq_true, Nat.reduceAdd, Nat.reduceSub, Nat.reduceLeDiff, Nat.reduceMul, Nat.reduceLT, Nat.reduceEqDiff, reduceIte, Bool.true_eq_false, and_true, true_and, and_self, Option.isSome_some, Option.isSome_none, List.append_nil, List.nil_append, List.cons_append, Nat.zero_add, Nat.add_zero, eq_self, Int.cast_ofNat_Int, Int.reduceEq, Int.reduceNe, Int.reduceLT, Int.reduceLE, Int.reduceNeg, Int.reduceAdd, Int.reduceSub, Int.reduceMul, b__law_pool, h', ix, p18, md, ml, ab, z3]
  · have h' : ¬ (at_ : Int) < (ns.length : Int) := by omega
    have c0 : cell = 0 := by rw [hc, if_neg h]
    subst c0
    simp only [bind_ok, bindN_ok, toS_ok, lift_some, sK_ap, sV_ap, s2_ap, sF_ap, aNil_ap, aCons_ap, sTup_ap, sLst_ap, sLstM_ap, sNeg_ap, sIf_ap, sCl_ap, sKget_ap, sKgetI_ap, sKin_ap, sKnin_ap, sIsi_ap, sCh_ap, sFK_ap, sMt_ap, sNot_ap, sAnd_ap, sOr_ap, tB_ap, tT_ap, tNot_ap, tAnd_ap, tOr_ap, oNo_ap, oSo_ap, sSl_ap, sIt_ap, sEnm_ap, sRg1_ap, sRg2_ap, xSeq_ap, xNil_ap, xRet_ap, xRetN_ap, xExp_ap, xSet_ap, xAsg_ap, xPar_ap, xPar3_ap, xIf_ap, xPut_ap, xFor_ap, gN_ap, gsN_ap, gsC_ap, gT_ap, add_ii, sub_ii, lt_ii, le_ii, gt_ii, ge_ii, eq_ii, ne_ii, eq_ss, ne_ss, mkT_ap, allD_nil, allD_d, items_tup, items_lst, walk_lst, walk_tup, walk_s, froz_tup, froz_lst, tru_bl, tru_int, tru_no, len_tup, len_lst, len_s, min_ii, max_ii, int_bl, int_in, tuple_tup, tuple_lst, tyN_int, tyN_tup, tyN_str, kit_ib, kit_ii, kit_tt, kit_st, kit_it, enum_nil, enum_cons, for_nil, List.getElem?_cons_zero, List.getElem?_cons_succ, List.set_cons_zero, List.set_cons_succ, List.length_cons, List.length_nil, Option.map_some, Option.bind_some, Bool.not_true, Bool.not_false, decide_true, decide_false, decide_eq_true_eq, if_true, if_false, Bool.false_eq_true, Nat.reduceAdd, Nat.reduceSub, Nat.reduceLeDiff, Nat.reduceMul, Nat.reduceLT, Nat.reduceEqDiff, reduceIte, Bool.true_eq_false, and_true, true_and, and_self, Option.isSome_some, Option.isSome_none, List.append_nil, List.nil_append, List.cons_append, Nat.zero_add, Nat.add_zero, eq_self, Int.cast_ofNat_Int, Int.reduceEq, Int.reduceNe, Int.reduceLT, Int.reduceLE, Int.reduceNeg, Int.reduceAdd, Int.reduceSub, Int.reduceMul, b__law_pool, h', p18, md, ml, ab, z3]
end K44

set_option maxHeartbeats 4000000
namespace K44
open PySem PySem.Spec PyProof.Rows L2 Vi
/-- a scheme as a value -/
abbrev sch (wd : List PD) (pl : Str) : PD := .tuple [.tuple wd, .str pl]
structure Wd (a b c d e : Int) : Prop where
  h0 : 2 ≤ a
  h1 : a ≤ b
  h2 : b ≤ c
  h3 : c ≤ d
  h4 : d ≤ e
  h5 : e ≤ 128
abbrev wds (a b c d e : Int) : List PD := [.int a, .int b, .int c, .int d, .int e]
def labs : List Str := ["char", "schar", "uchar", "short", "ushort", "int", "uint", "long", "ulong", "wide", "uwide"]
theorem widths_ok {a b c d e : Int} (W : Wd a b c d e) (st : Sto) : F_check_widths [.d (.tuple (wds a b c d e))] st = .ok (.d .none) st := by
  obtain ⟨h0, h1, h2, h3, h4, h5⟩ := W
  refine dF_pureN rfl (e := [some (.d (.tuple (wds a b c d e))), some (.d (.int e)), some (.d (.int 4)), some (.d (.int e))]) ?_
  show b_check_widths [some (.d (.tuple (wds a b c d e))), none, none, none] ⟨st.obs, st.n⟩ = _
  have i0 : (2 : Int) ≤ a := h0
  have j0 : a ≤ 128 := by omega
  have j1 : b ≤ 128 := by omega
  have j2 : c ≤ 128 := by omega
  have j3 : d ≤ 128 := by omega
  simp only [bind_ok, bindN_ok, toS_ok, lift_some, sK_ap, sV_ap, s2_ap, sF_ap, aNil_ap, aCons_ap, sTup_ap, sLst_ap, sLstM_ap, sNeg_ap, sIf_ap, sCl_ap, sKget_ap, sKgetI_ap, sKin_ap, sKnin_ap, sIsi_ap, sCh_ap, sFK_ap, sMt_ap, sNot_ap, sAnd_ap, sOr_ap, tB_ap, tT_ap, tNot_ap, tAnd_ap, tOr_ap, oNo_ap, oSo_ap, sSl_ap, sIt_ap, sEnm_ap, sRg1_ap, sRg2_ap, xSeq_ap, xNil_ap, xRet_ap, xRetN_ap, xExp_ap, xSet_ap, xAsg_ap, xPar_ap, xPar3_ap, xIf_ap, xPut_ap, xFor_ap, gN_ap, gsN_ap, gsC_ap, gT_ap, add_ii, sub_ii, lt_ii, le_ii, gt_ii, ge_ii, eq_ii, ne_ii, eq_ss, ne_ss, mkT_ap, allD_nil, allD_d, items_tup, items_lst, walk_lst, walk_tup, walk_s, froz_tup, froz_lst, tru_bl, tru_int, tru_no, len_tup, len_lst, len_s, min_ii, max_ii, int_bl, int_in, tuple_tup, tuple_lst, tyN_int, tyN_tup, tyN_str, kit_ib, kit_ii, kit_tt, kit_st, kit_it, enum_nil, enum_cons, for_nil, List.getElem?_cons_zero, List.getElem?_cons_succ, List.set_cons_zero, List.set_cons_succ, List.length_cons, List.length_nil, Option.map_some, Option.bind_some, Bool.not_true, Bool.not_false, decide_true, decide_false, decide_eq_true_eq, if_true, if_false, Bool.false_eq_true, Nat.reduceAdd, Nat.reduceSub, Nat.reduceLeDiff, Nat.reduceMul, Nat.reduceLT, Nat.reduceEqDiff, reduceIte, Bool.true_eq_false, and_true, true_and, and_self, Option.isSome_some, Option.isSome_none, List.append_nil, List.nil_append, List.cons_append, Nat.zero_add, Nat.add_zero, eq_self, Int.cast_ofNat_Int, Int.reduceEq, Int.reduceNe, Int.reduceLT, Int.reduceLE, Int.reduceNeg, Int.reduceAdd, Int.reduceSub, Int.reduceMul, b_check_widths, k_WIDTHS, k_FEWEST, k_MOST, for_cons, List.map_cons, List.map_nil, h0, h1, h2, h3, h4, h5, j0, j1, j2, j3]
  
theorem model_ok {a b c d e : Int} (W : Wd a b c d e) {pl : Str} (hp : pl = "s" ∨ pl = "u") (st : Sto) : F_check_model [.d (sch (wds a b c d e) pl)] st = .ok (.d .none) st := by
  have nn : ∀ st, oNin (.d (.str pl)) (.d (.tuple [.str "s", .str "u"])) st = some (.d (.bool false), st) := fun st => by
    rcases hp with rfl | rfl <;> kernel_rfl
  have z2 : 2 ≤ sizeLine := by decide
  refine dF_pureN rfl (e := [some (.d (sch (wds a b c d e) pl)), some (.d (.tuple (wds a b c d e))), some (.d (.str pl))]) ?_
  show b_check_model [some (.d (sch (wds a b c d e) pl)), none, none] ⟨st.obs, st.n⟩ = _
  simp only [bind_ok, bindN_ok, toS_ok, lift_some, sK_ap, sV_ap, s2_ap, sF_ap, aNil_ap, aCons_ap, sTup_ap, sLst_ap, sLstM_ap, sNeg_ap, sIf_ap, sCl_ap, sKget_ap, sKgetI_ap, sKin_ap, sKnin_ap, sIsi_ap, sCh_ap, sFK_ap, sMt_ap, sNot_ap, sAnd_ap, sOr_ap, tB_ap, tT_ap, tNot_ap, tAnd_ap, tOr_ap, oNo_ap, oSo_ap, sSl_ap, sIt_ap, sEnm_ap, sRg1_ap, sRg2_ap, xSeq_ap, xNil_ap, xRet_ap, xRetN_ap, xExp_ap, xSet_ap, xAsg_ap, xPar_ap, xPar3_ap, xIf_ap, xPut_ap, xFor_ap, gN_ap, gsN_ap, gsC_ap, gT_ap, add_ii, sub_ii, lt_ii, le_ii, gt_ii, ge_ii, eq_ii, ne_ii, eq_ss, ne_ss, mkT_ap, allD_nil, allD_d, items_tup, items_lst, walk_lst, walk_tup, walk_s, froz_tup, froz_lst, tru_bl, tru_int, tru_no, len_tup, len_lst, len_s, min_ii, max_ii, int_bl, int_in, tuple_tup, tuple_lst, tyN_int, tyN_tup, tyN_str, kit_ib, kit_ii, kit_tt, kit_st, kit_it, enum_nil, enum_cons, for_nil, List.getElem?_cons_zero, List.getElem?_cons_succ, List.set_cons_zero, List.set_cons_succ, List.length_cons, List.length_nil, Option.map_some, Option.bind_some, Bool.not_true, Bool.not_false, decide_true, decide_false, decide_eq_true_eq, if_true, if_false, Bool.false_eq_true, Nat.reduceAdd, Nat.reduceSub, Nat.reduceLeDiff, Nat.reduceMul, Nat.reduceLT, Nat.reduceEqDiff, reduceIte, Bool.true_eq_false, and_true, true_and, and_self, Option.isSome_some, Option.isSome_none, List.append_nil, List.nil_append, List.cons_append, Nat.zero_add, Nat.add_zero, eq_self, Int.cast_ofNat_Int, Int.reduceEq, Int.reduceNe, Int.reduceLT, Int.reduceLE, Int.reduceNeg, Int.reduceAdd, Int.reduceSub, Int.reduceMul, b_check_model, List.map_cons, List.map_nil, widths_ok W, z2, nn]
/-- what is known of a kind -/
structure Lab (z : Str) (r ix : Nat) (sg : Str → Bool) : Prop where
  le : r ≤ 4
  rk : k_RANKS.find? (fun p => p.1 == z) = some (z, .int (r : Nat))
  lb : ∀ a b c d e pl st, F__law_bits [.d (sch (wds a b c d e) pl), .d (.str z)] st = .ok (.d ((wds a b c d e).getD r .none)) st
  hx : ∀ st, gIdx (.d (.list (labs.map PyData.str))) [.d (.str z)] st = some (.d (.int (ix : Nat)), st)
  hx5 : ix < 5 ↔ r < 2
  lu : ∀ (wd : List PD) (pl : Str), (pl = "s" ∨ pl = "u") → ∀ st, F__law_is_unsigned [.d (sch wd pl), .d (.str z)] st = .ok (.d (.bool (!sg pl))) st
  s1 : ∀ (wd : List PD) (pl : Str), (pl = "s" ∨ pl = "u") → ∀ st, F_is_signed [.d (sch wd pl), .d (.str z)] st = .ok (.d (.bool (sg pl))) st
theorem via0 {F : FS} {as : List Va} {st : Sto} {v : Va} (h : F as st = .ok v ⟨st.obs.take st.n, st.base⟩) : F as st = .ok v st := by rw [h, sto_take]
theorem via {F : FS} {as : List Va} {st : Sto} {v : Va} (h : F as st = .ok v ⟨st.obs.take st.n, st.base⟩) : F as st = .ok v st := by rw [h, sto_take]
theorem via2 {F : FS} {as : List Va} {st : Sto} {v : Va} (h : F as st = .ok v ⟨(st.obs.take st.n).take st.n, st.base⟩) : F as st = .ok v st := by
  rw [h, List.take_take, Nat.min_self]
  exact congrArg (Res.ok v) (sto_take st)
theorem lab_ok {z : Str} (h : z ∈ labs) : ∃ r ix sg, Lab z r ix sg := by
  simp only [labs, List.mem_cons, List.not_mem_nil, or_false] at h
  rcases h with rfl | rfl | rfl | rfl | rfl | rfl | rfl | rfl | rfl | rfl | rfl
  · exact ⟨0, 0, fun pl => PyData.eqv (.str pl) (.str "s"), by decide, by kernel_rfl, fun a b c d e pl st => via2 (by kernel_rfl), fun st => by kernel_rfl, by decide, fun wd pl hp st => via (by rcases hp with rfl | rfl <;> kernel_rfl), fun wd pl hp st => via (by rcases hp with rfl | rfl <;> kernel_rfl)⟩
  · exact ⟨0, 1, fun _ => true, by decide, by kernel_rfl, fun a b c d e pl st => via2 (by kernel_rfl), fun st => by kernel_rfl, by decide, fun wd pl hp st => via (by rcases hp with rfl | rfl <;> kernel_rfl), fun wd pl hp st => via (by rcases hp with rfl | rfl <;> kernel_rfl)⟩
  · exact ⟨0, 2, fun _ => false, by decide, by kernel_rfl, fun a b c d e pl st => via2 (by kernel_rfl), fun st => by kernel_rfl, by decide, fun wd pl hp st => via (by rcases hp with rfl | rfl <;> kernel_rfl), fun wd pl hp st => via (by rcases hp with rfl | rfl <;> kernel_rfl)⟩
  · exact ⟨1, 3, fun _ => true, by decide, by kernel_rfl, fun a b c d e pl st => via2 (by kernel_rfl), fun st => by kernel_rfl, by decide, fun wd pl hp st => via (by rcases hp with rfl | rfl <;> kernel_rfl), fun wd pl hp st => via (by rcases hp with rfl | rfl <;> kernel_rfl)⟩
  · exact ⟨1, 4, fun _ => false, by decide, by kernel_rfl, fun a b c d e pl st => via2 (by kernel_rfl), fun st => by kernel_rfl, by decide, fun wd pl hp st => via (by rcases hp with rfl | rfl <;> kernel_rfl), fun wd pl hp st => via (by rcases hp with rfl | rfl <;> kernel_rfl)⟩
  · exact ⟨2, 5, fun _ => true, by decide, by kernel_rfl, fun a b c d e pl st => via2 (by kernel_rfl), fun st => by kernel_rfl, by decide, fun wd pl hp st => via (by rcases hp with rfl | rfl <;> kernel_rfl), fun wd pl hp st => via (by rcases hp with rfl | rfl <;> kernel_rfl)⟩
  · exact ⟨2, 6, fun _ => false, by decide, by kernel_rfl, fun a b c d e pl st => via2 (by kernel_rfl), fun st => by kernel_rfl, by decide, fun wd pl hp st => via (by rcases hp with rfl | rfl <;> kernel_rfl), fun wd pl hp st => via (by rcases hp with rfl | rfl <;> kernel_rfl)⟩
  · exact ⟨3, 7, fun _ => true, by decide, by kernel_rfl, fun a b c d e pl st => via2 (by kernel_rfl), fun st => by kernel_rfl, by decide, fun wd pl hp st => via (by rcases hp with rfl | rfl <;> kernel_rfl), fun wd pl hp st => via (by rcases hp with rfl | rfl <;> kernel_rfl)⟩
  · exact ⟨3, 8, fun _ => false, by decide, by kernel_rfl, fun a b c d e pl st => via2 (by kernel_rfl), fun st => by kernel_rfl, by decide, fun wd pl hp st => via (by rcases hp with rfl | rfl <;> kernel_rfl), fun wd pl hp st => via (by rcases hp with rfl | rfl <;> kernel_rfl)⟩
  · exact ⟨4, 9, fun _ => true, by decide, by kernel_rfl, fun a b c d e pl st => via2 (by kernel_rfl), fun st => by kernel_rfl, by decide, fun wd pl hp st => via (by rcases hp with rfl | rfl <;> kernel_rfl), fun wd pl hp st => via (by rcases hp with rfl | rfl <;> kernel_rfl)⟩
  · exact ⟨4, 10, fun _ => false, by decide, by kernel_rfl, fun a b c d e pl st => via2 (by kernel_rfl), fun st => by kernel_rfl, by decide, fun wd pl hp st => via (by rcases hp with rfl | rfl <;> kernel_rfl), fun wd pl hp st => via (by rcases hp with rfl | rfl <;> kernel_rfl)⟩

section
variable {a b c d e : Int} {z : Str} {r ix : Nat} {sg : Str → Bool} {pl : Str}
theorem bits_ok {wd : List PD} {v : PD} (L : Lab z r ix sg) (h : wd[r]? = some v) (st : Sto) : F_bits [.d (sch wd pl), .d (.str z)] st = .ok (.d v) st := by
  refine dF_pure rfl ?_
  show b_bits [some (.d (sch wd pl)), some (.d (.str z))] ⟨st.obs, st.n⟩ = _
  have i0 := ix_tupN (st := ⟨st.obs, st.n⟩) (ds := [.tuple wd, .str pl]) (k := 0) rfl
  have i1 := ix_tupN (st := ⟨st.obs, st.n⟩) (ds := wd) (k := r) h
  simp only [bind_ok, bindN_ok, toS_ok, lift_some, sK_ap, sV_ap, s2_ap, sF_ap, aNil_ap, aCons_ap, sTup_ap, sLst_ap, sLstM_ap, sNeg_ap, sIf_ap, sCl_ap, sKget_ap, sKgetI_ap, sKin_ap, sKnin_ap, sIsi_ap, sCh_ap, sFK_ap, sMt_ap, sNot_ap, sAnd_ap, sOr_ap, tB_ap, tT_ap, tNot_ap, tAnd_ap, tOr_ap, oNo_ap, oSo_ap, sSl_ap, sIt_ap, sEnm_ap, sRg1_ap, sRg2_ap, xSeq_ap, xNil_ap, xRet_ap, xRetN_ap, xExp_ap, xSet_ap, xAsg_ap, xPar_ap, xPar3_ap, xIf_ap, xPut_ap, xFor_ap, gN_ap, gsN_ap, gsC_ap, gT_ap, add_ii, sub_ii, lt_ii, le_ii, gt_ii, ge_ii, eq_ii, ne_ii, eq_ss, ne_ss, mkT_ap, allD_nil, allD_d, items_tup, items_lst, walk_lst, walk_tup, walk_s, froz_tup, froz_lst, tru_bl, tru_int, tru_no, len_tup, len_lst, len_s, min_ii, max_ii, int_bl, int_in, tuple_tup, tuple_lst, tyN_int, tyN_tup, tyN_str, kit_ib, kit_ii, kit_tt, kit_st, kit_it, enum_nil, enum_cons, for_nil, List.getElem?_cons_zero, List.getElem?_cons_succ, List.set_cons_zero, List.set_cons_succ, List.length_cons, List.length_nil, Option.map_some, Option.bind_some, Bool.not_true, Bool.not_false, decide_true, decide_false, decide_eq_true_eq, if_true, if_false, Bool.false_eq_true, Nat.reduceAdd, Nat.reduceSub, Nat.reduceLeDiff, Nat.reduceMul, Nat.reduceLT, Nat.reduceEqDiff, reduceIte, Bool.true_eq_false, and_true, true_and, and_self, Option.isSome_some, Option.isSome_none, List.append_nil, List.nil_append, List.cons_append, Nat.zero_add, Nat.add_zero, eq_self, Int.cast_ofNat_Int, Int.reduceEq, Int.reduceNe, Int.reduceLT, Int.reduceLE, Int.reduceNeg, Int.reduceAdd, Int.reduceSub, Int.reduceMul, b_bits, L.rk] at i0 ⊢
  simp only [bind_ok, bindN_ok, toS_ok, lift_some, sK_ap, sV_ap, s2_ap, sF_ap, aNil_ap, aCons_ap, sTup_ap, sLst_ap, sLstM_ap, sNeg_ap, sIf_ap, sCl_ap, sKget_ap, sKgetI_ap, sKin_ap, sKnin_ap, sIsi_ap, sCh_ap, sFK_ap, sMt_ap, sNot_ap, sAnd_ap, sOr_ap, tB_ap, tT_ap, tNot_ap, tAnd_ap, tOr_ap, oNo_ap, oSo_ap, sSl_ap, sIt_ap, sEnm_ap, sRg1_ap, sRg2_ap, xSeq_ap, xNil_ap, xRet_ap, xRetN_ap, xExp_ap, xSet_ap, xAsg_ap, xPar_ap, xPar3_ap, xIf_ap, xPut_ap, xFor_ap, gN_ap, gsN_ap, gsC_ap, gT_ap, add_ii, sub_ii, lt_ii, le_ii, gt_ii, ge_ii, eq_ii, ne_ii, eq_ss, ne_ss, mkT_ap, allD_nil, allD_d, items_tup, items_lst, walk_lst, walk_tup, walk_s, froz_tup, froz_lst, tru_bl, tru_int, tru_no, len_tup, len_lst, len_s, min_ii, max_ii, int_bl, int_in, tuple_tup, tuple_lst, tyN_int, tyN_tup, tyN_str, kit_ib, kit_ii, kit_tt, kit_st, kit_it, enum_nil, enum_cons, for_nil, List.getElem?_cons_zero, List.getElem?_cons_succ, List.set_cons_zero, List.set_cons_succ, List.length_cons, List.length_nil, Option.map_some, Option.bind_some, Bool.not_true, Bool.not_false, decide_true, decide_false, decide_eq_true_eq, if_true, if_false, Bool.false_eq_true, Nat.reduceAdd, Nat.reduceSub, Nat.reduceLeDiff, Nat.reduceMul, Nat.reduceLT, Nat.reduceEqDiff, reduceIte, Bool.true_eq_false, and_true, true_and, and_self, Option.isSome_some, Option.isSome_none, List.append_nil, List.nil_append, List.cons_append, Nat.zero_add, Nat.add_zero, eq_self, Int.cast_ofNat_Int, Int.reduceEq, Int.reduceNe, Int.reduceLT, Int.reduceLE, Int.reduceNeg, Int.reduceAdd, Int.reduceSub, Int.reduceMul, i0, i1]
/-- the least number of a kind -/
abbrev lo (g : Bool) (v : Nat) : Int := if g = true then -(2 : Int) ^ (v - 1) else 0
abbrev hi (g : Bool) (v : Nat) : Int := lo g v + 2 ^ v - 1
theorem pow_half {v : Nat} (h : 2 ≤ v) : (2 : Int) ^ v / 2 = 2 ^ (v - 1) ∧ (2 : Int) ^ v = 2 * 2 ^ (v - 1) := by
  obtain ⟨k, rfl⟩ : ∃ k, v = k + 1 := ⟨v - 1, by omega⟩
  rw [show k + 1 - 1 = k by omega, Int.pow_succ]
  exact ⟨Int.mul_ediv_cancel _ (by decide), by omega⟩
theorem lims_ok {wd : List PD} {v : Nat} (L : Lab z r ix sg) (h : wd[r]? = some (.int (v : Int))) (hv0 : 2 ≤ v) (hv : v ≤ 128) (hp : pl = "s" ∨ pl = "u") (st : Sto) :
    F_limits_in [.d (sch wd pl), .d (.str z)] st = .ok (.d (.tuple [.int (lo (sg pl) v), .int (hi (sg pl) v)])) st := by
  refine dF_pure rfl ?_
  show b_limits_in [some (.d (sch wd pl)), some (.d (.str z)), none] ⟨st.obs, st.n⟩ = _
  have sh : oShl (.d (.int 1)) (.d (.int (v : Int))) ⟨st.obs, st.n⟩ = some (.d (.int ((2 : Int) ^ v)), ⟨st.obs, st.n⟩) := by
    rw [shl_ii (by omega) (by rw [show (1 : Int).natAbs.log2 = 0 by decide]; omega), Int.one_mul, Int.toNat_natCast]
  have d2 := div_ii (st := ⟨st.obs, st.n⟩) (i := (2 : Int) ^ v) (j := 2) (by decide) (by decide)
  obtain ⟨ph, pd⟩ := pow_half hv0
  rw [ph] at d2
  have z2 : 2 ≤ sizeLine := by decide
  have e1 : (2 : Int) ^ (v - 1) - 1 = hi true v := by
    show _ = (if true = true then -(2 : Int) ^ (v - 1) else 0) + 2 ^ v - 1
    rw [if_pos rfl]
    omega
  have e2 : (2 : Int) ^ v - 1 = hi false v := by
    show _ = (if false = true then -(2 : Int) ^ (v - 1) else 0) + 2 ^ v - 1
    rw [if_neg Bool.false_ne_true]
    omega
  cases hs : sg pl
  · simp only [bind_ok, bindN_ok, toS_ok, lift_some, sK_ap, sV_ap, s2_ap, sF_ap, aNil_ap, aCons_ap, sTup_ap, sLst_ap, sLstM_ap, sNeg_ap, sIf_ap, sCl_ap, sKget_ap, sKgetI_ap, sKin_ap, sKnin_ap, sIsi_ap, sCh_ap, sFK_ap, sMt_ap, sNot_ap, sAnd_ap, sOr_ap, tB_ap, tT_ap, tNot_ap, tAnd_ap, tOr_ap, oNo_ap, oSo_ap, sSl_ap, sIt_ap, sEnm_ap, sRg1_ap, sRg2_ap, xSeq_ap, xNil_ap, xRet_ap, xRetN_ap, xExp_ap, xSet_ap, xAsg_ap, xPar_ap, xPar3_ap, xIf_ap, xPut_ap, xFor_ap, gN_ap, gsN_ap, gsC_ap, gT_ap, add_ii, sub_ii, lt_ii, le_ii, gt_ii, ge_ii, eq_ii, ne_ii, eq_ss, ne_ss, mkT_ap, allD_nil, allD_d, items_tup, items_lst, walk_lst, walk_tup, walk_s, froz_tup, froz_lst, tru_bl, tru_int, tru_no, len_tup, len_lst, len_s, min_ii, max_ii, int_bl, int_in, tuple_tup, tuple_lst, tyN_int, tyN_tup, tyN_str, kit_ib, kit_ii, kit_tt, kit_st, kit_it, enum_nil, enum_cons, for_nil, List.getElem?_cons_zero, List.getElem?_cons_succ, List.set_cons_zero, List.set_cons_succ, List.length_cons, List.length_nil, Option.map_some, Option.bind_some, Bool.not_true, Bool.not_false, decide_true, decide_false, decide_eq_true_eq, if_true, if_false, Bool.false_eq_true, Nat.reduceAdd, Nat.reduceSub, Nat.reduceLeDiff, Nat.reduceMul, Nat.reduceLT, Nat.reduceEqDiff, reduceIte, Bool.true_eq_false, and_true, true_and, and_self, Option.isSome_some, Option.isSome_none, List.append_nil, List.nil_append, List.cons_append, Nat.zero_add, Nat.add_zero, eq_self, Int.cast_ofNat_Int, Int.reduceEq, Int.reduceNe, Int.reduceLT, Int.reduceLE, Int.reduceNeg, Int.reduceAdd, Int.reduceSub, Int.reduceMul, b_limits_in, bits_ok L h, L.s1 wd pl hp, hs, sh, z2, e2]
    rfl
  · simp only [bind_ok, bindN_ok, toS_ok, lift_some, sK_ap, sV_ap, s2_ap, sF_ap, aNil_ap, aCons_ap, sTup_ap, sLst_ap, sLstM_ap, sNeg_ap, sIf_ap, sCl_ap, sKget_ap, sKgetI_ap, sKin_ap, sKnin_ap, sIsi_ap, sCh_ap, sFK_ap, sMt_ap, sNot_ap, sAnd_ap, sOr_ap, tB_ap, tT_ap, tNot_ap, tAnd_ap, tOr_ap, oNo_ap, oSo_ap, sSl_ap, sIt_ap, sEnm_ap, sRg1_ap, sRg2_ap, xSeq_ap, xNil_ap, xRet_ap, xRetN_ap, xExp_ap, xSet_ap, xAsg_ap, xPar_ap, xPar3_ap, xIf_ap, xPut_ap, xFor_ap, gN_ap, gsN_ap, gsC_ap, gT_ap, add_ii, sub_ii, lt_ii, le_ii, gt_ii, ge_ii, eq_ii, ne_ii, eq_ss, ne_ss, mkT_ap, allD_nil, allD_d, items_tup, items_lst, walk_lst, walk_tup, walk_s, froz_tup, froz_lst, tru_bl, tru_int, tru_no, len_tup, len_lst, len_s, min_ii, max_ii, int_bl, int_in, tuple_tup, tuple_lst, tyN_int, tyN_tup, tyN_str, kit_ib, kit_ii, kit_tt, kit_st, kit_it, enum_nil, enum_cons, for_nil, List.getElem?_cons_zero, List.getElem?_cons_succ, List.set_cons_zero, List.set_cons_succ, List.length_cons, List.length_nil, Option.map_some, Option.bind_some, Bool.not_true, Bool.not_false, decide_true, decide_false, decide_eq_true_eq, if_true, if_false, Bool.false_eq_true, Nat.reduceAdd, Nat.reduceSub, Nat.reduceLeDiff, Nat.reduceMul, Nat.reduceLT, Nat.reduceEqDiff, reduceIte, Bool.true_eq_false, and_true, true_and, and_self, Option.isSome_some, Option.isSome_none, List.append_nil, List.nil_append, List.cons_append, Nat.zero_add, Nat.add_zero, eq_self, Int.cast_ofNat_Int, Int.reduceEq, Int.reduceNe, Int.reduceLT, Int.reduceLE, Int.reduceNeg, Int.reduceAdd, Int.reduceSub, Int.reduceMul, b_limits_in, bits_ok L h, L.s1 wd pl hp, hs, sh, d2, z2, e1]
    rfl
/-- a number converted -/
abbrev cv (g : Bool) (v : Nat) (x : Int) : Int := (x - lo g v) % 2 ^ v + lo g v
theorem into_ok {wd : List PD} {v : Nat} {x : Int} (L : Lab z r ix sg) (h : wd[r]? = some (.int (v : Int))) (hv0 : 2 ≤ v) (hv : v ≤ 128) (hp : pl = "s" ∨ pl = "u") (st : Sto) :
    F_into [.d (sch wd pl), .d (.str z), .d (.int x)] st = .ok (.d (.int (cv (sg pl) v x))) st := by
  refine dF_pure rfl ?_
  show b_into [some (.d (sch wd pl)), some (.d (.str z)), some (.d (.int x)), none] ⟨st.obs, st.n⟩ = _
  have sh : oShl (.d (.int 1)) (.d (.int (v : Int))) ⟨st.obs, st.n⟩ = some (.d (.int ((2 : Int) ^ v)), ⟨st.obs, st.n⟩) := by
    rw [shl_ii (by omega) (by rw [show (1 : Int).natAbs.log2 = 0 by decide]; omega), Int.one_mul, Int.toNat_natCast]
  have pp : (0 : Int) < 2 ^ v := Int.pow_pos (by decide)
  have i0 := ix_tupN (st := ⟨st.obs, st.n⟩) (ds := [.int (lo (sg pl) v), .int (hi (sg pl) v)]) (k := 0) rfl
  have hl := lims_ok L h hv0 hv hp ⟨st.obs, st.n⟩
  have md := fun y => mod_ii (st := ⟨st.obs, st.n⟩) (i := y) pp
  generalize hi (sg pl) v = hh at i0 hl
  show _ = Res.ok (Out.rt (.d (.int ((x - lo (sg pl) v) % 2 ^ v + lo (sg pl) v)))) _
  generalize lo (sg pl) v = ll at i0 hl ⊢
  simp only [bind_ok, bindN_ok, toS_ok, lift_some, sK_ap, sV_ap, s2_ap, sF_ap, aNil_ap, aCons_ap, sTup_ap, sLst_ap, sLstM_ap, sNeg_ap, sIf_ap, sCl_ap, sKget_ap, sKgetI_ap, sKin_ap, sKnin_ap, sIsi_ap, sCh_ap, sFK_ap, sMt_ap, sNot_ap, sAnd_ap, sOr_ap, tB_ap, tT_ap, tNot_ap, tAnd_ap, tOr_ap, oNo_ap, oSo_ap, sSl_ap, sIt_ap, sEnm_ap, sRg1_ap, sRg2_ap, xSeq_ap, xNil_ap, xRet_ap, xRetN_ap, xExp_ap, xSet_ap, xAsg_ap, xPar_ap, xPar3_ap, xIf_ap, xPut_ap, xFor_ap, gN_ap, gsN_ap, gsC_ap, gT_ap, add_ii, sub_ii, lt_ii, le_ii, gt_ii, ge_ii, eq_ii, ne_ii, eq_ss, ne_ss, mkT_ap, allD_nil, allD_d, items_tup, items_lst, walk_lst, walk_tup, walk_s, froz_tup, froz_lst, tru_bl, tru_int, tru_no, len_tup, len_lst, len_s, min_ii, max_ii, int_bl, int_in, tuple_tup, tuple_lst, tyN_int, tyN_tup, tyN_str, kit_ib, kit_ii, kit_tt, kit_st, kit_it, enum_nil, enum_cons, for_nil, List.getElem?_cons_zero, List.getElem?_cons_succ, List.set_cons_zero, List.set_cons_succ, List.length_cons, List.length_nil, Option.map_some, Option.bind_some, Bool.not_true, Bool.not_false, decide_true, decide_false, decide_eq_true_eq, if_true, if_false, Bool.false_eq_true, Nat.reduceAdd, Nat.reduceSub, Nat.reduceLeDiff, Nat.reduceMul, Nat.reduceLT, Nat.reduceEqDiff, reduceIte, Bool.true_eq_false, and_true, true_and, and_self, Option.isSome_some, Option.isSome_none, List.append_nil, List.nil_append, List.cons_append, Nat.zero_add, Nat.add_zero, eq_self, Int.cast_ofNat_Int, Int.reduceEq, Int.reduceNe, Int.reduceLT, Int.reduceLE, Int.reduceNeg, Int.reduceAdd, Int.reduceSub, Int.reduceMul] at i0
  simp only [bind_ok, bindN_ok, toS_ok, lift_some, sK_ap, sV_ap, s2_ap, sF_ap, aNil_ap, aCons_ap, sTup_ap, sLst_ap, sLstM_ap, sNeg_ap, sIf_ap, sCl_ap, sKget_ap, sKgetI_ap, sKin_ap, sKnin_ap, sIsi_ap, sCh_ap, sFK_ap, sMt_ap, sNot_ap, sAnd_ap, sOr_ap, tB_ap, tT_ap, tNot_ap, tAnd_ap, tOr_ap, oNo_ap, oSo_ap, sSl_ap, sIt_ap, sEnm_ap, sRg1_ap, sRg2_ap, xSeq_ap, xNil_ap, xRet_ap, xRetN_ap, xExp_ap, xSet_ap, xAsg_ap, xPar_ap, xPar3_ap, xIf_ap, xPut_ap, xFor_ap, gN_ap, gsN_ap, gsC_ap, gT_ap, add_ii, sub_ii, lt_ii, le_ii, gt_ii, ge_ii, eq_ii, ne_ii, eq_ss, ne_ss, mkT_ap, allD_nil, allD_d, items_tup, items_lst, walk_lst, walk_tup, walk_s, froz_tup, froz_lst, tru_bl, tru_int, tru_no, len_tup, len_lst, len_s, min_ii, max_ii, int_bl, int_in, tuple_tup, tuple_lst, tyN_int, tyN_tup, tyN_str, kit_ib, kit_ii, kit_tt, kit_st, kit_it, enum_nil, enum_cons, for_nil, List.getElem?_cons_zero, List.getElem?_cons_succ, List.set_cons_zero, List.set_cons_succ, List.length_cons, List.length_nil, Option.map_some, Option.bind_some, Bool.not_true, Bool.not_false, decide_true, decide_false, decide_eq_true_eq, if_true, if_false, Bool.false_eq_true, Nat.reduceAdd, Nat.reduceSub, Nat.reduceLeDiff, Nat.reduceMul, Nat.reduceLT, Nat.reduceEqDiff, reduceIte, Bool.true_eq_false, and_true, true_and, and_self, Option.isSome_some, Option.isSome_none, List.append_nil, List.nil_append, List.cons_append, Nat.zero_add, Nat.add_zero, eq_self, Int.cast_ofNat_Int, Int.reduceEq, Int.reduceNe, Int.reduceLT, Int.reduceLE, Int.reduceNeg, Int.reduceAdd, Int.reduceSub, Int.reduceMul, b_into, bits_ok L h, hl, sh, i0, md]
theorem kind_ok (L : Lab z r ix sg) (st : Sto) : F_check_kind [.d (.str z)] st = .ok (.d .none) st := by
  refine dF_pureN rfl (e := [some (.d (.str z))]) ?_
  show b_check_kind [some (.d (.str z))] ⟨st.obs, st.n⟩ = _
  simp only [bind_ok, bindN_ok, toS_ok, lift_some, sK_ap, sV_ap, s2_ap, sF_ap, aNil_ap, aCons_ap, sTup_ap, sLst_ap, sLstM_ap, sNeg_ap, sIf_ap, sCl_ap, sKget_ap, sKgetI_ap, sKin_ap, sKnin_ap, sIsi_ap, sCh_ap, sFK_ap, sMt_ap, sNot_ap, sAnd_ap, sOr_ap, tB_ap, tT_ap, tNot_ap, tAnd_ap, tOr_ap, oNo_ap, oSo_ap, sSl_ap, sIt_ap, sEnm_ap, sRg1_ap, sRg2_ap, xSeq_ap, xNil_ap, xRet_ap, xRetN_ap, xExp_ap, xSet_ap, xAsg_ap, xPar_ap, xPar3_ap, xIf_ap, xPut_ap, xFor_ap, gN_ap, gsN_ap, gsC_ap, gT_ap, add_ii, sub_ii, lt_ii, le_ii, gt_ii, ge_ii, eq_ii, ne_ii, eq_ss, ne_ss, mkT_ap, allD_nil, allD_d, items_tup, items_lst, walk_lst, walk_tup, walk_s, froz_tup, froz_lst, tru_bl, tru_int, tru_no, len_tup, len_lst, len_s, min_ii, max_ii, int_bl, int_in, tuple_tup, tuple_lst, tyN_int, tyN_tup, tyN_str, kit_ib, kit_ii, kit_tt, kit_st, kit_it, enum_nil, enum_cons, for_nil, List.getElem?_cons_zero, List.getElem?_cons_succ, List.set_cons_zero, List.set_cons_succ, List.length_cons, List.length_nil, Option.map_some, Option.bind_some, Bool.not_true, Bool.not_false, decide_true, decide_false, decide_eq_true_eq, if_true, if_false, Bool.false_eq_true, Nat.reduceAdd, Nat.reduceSub, Nat.reduceLeDiff, Nat.reduceMul, Nat.reduceLT, Nat.reduceEqDiff, reduceIte, Bool.true_eq_false, and_true, true_and, and_self, Option.isSome_some, Option.isSome_none, List.append_nil, List.nil_append, List.cons_append, Nat.zero_add, Nat.add_zero, eq_self, Int.cast_ofNat_Int, Int.reduceEq, Int.reduceNe, Int.reduceLT, Int.reduceLE, Int.reduceNeg, Int.reduceAdd, Int.reduceSub, Int.reduceMul, b_check_kind, L.rk]
theorem held_ok {l u x : Int} {wd : List PD} (hl : ∀ st, F_limits_in [.d (sch wd pl), .d (.str z)] st = .ok (.d (.tuple [.int l, .int u])) st) (st : Sto) : F_held [.d (sch wd pl), .d (.str z), .d (.int x)] st = .ok (.d (.bool (decide (l ≤ x) && decide (x ≤ u)))) st := by
  refine dF_pure rfl ?_
  show b_held [some (.d (sch wd pl)), some (.d (.str z)), some (.d (.int x)), none, none] ⟨st.obs, st.n⟩ = _
  by_cases q : l ≤ x <;> simp only [bind_ok, bindN_ok, toS_ok, lift_some, sK_ap, sV_ap, s2_ap, sF_ap, aNil_ap, aCons_ap, sTup_ap, sLst_ap, sLstM_ap, sNeg_ap, sIf_ap, sCl_ap, sKget_ap, sKgetI_ap, sKin_ap, sKnin_ap, sIsi_ap, sCh_ap, sFK_ap, sMt_ap, sNot_ap, sAnd_ap, sOr_ap, tB_ap, tT_ap, tNot_ap, tAnd_ap, tOr_ap, oNo_ap, oSo_ap, sSl_ap, sIt_ap, sEnm_ap, sRg1_ap, sRg2_ap, xSeq_ap, xNil_ap, xRet_ap, xRetN_ap, xExp_ap, xSet_ap, xAsg_ap, xPar_ap, xPar3_ap, xIf_ap, xPut_ap, xFor_ap, gN_ap, gsN_ap, gsC_ap, gT_ap, add_ii, sub_ii, lt_ii, le_ii, gt_ii, ge_ii, eq_ii, ne_ii, eq_ss, ne_ss, mkT_ap, allD_nil, allD_d, items_tup, items_lst, walk_lst, walk_tup, walk_s, froz_tup, froz_lst, tru_bl, tru_int, tru_no, len_tup, len_lst, len_s, min_ii, max_ii, int_bl, int_in, tuple_tup, tuple_lst, tyN_int, tyN_tup, tyN_str, kit_ib, kit_ii, kit_tt, kit_st, kit_it, enum_nil, enum_cons, for_nil, List.getElem?_cons_zero, List.getElem?_cons_succ, List.set_cons_zero, List.set_cons_succ, List.length_cons, List.length_nil, Option.map_some, Option.bind_some, Bool.not_true, Bool.not_false, decide_true, decide_false, decide_eq_true_eq, if_true, if_false, Bool.false_eq_true, Nat.reduceAdd, Nat.reduceSub, Nat.reduceLeDiff, Nat.reduceMul, Nat.reduceLT, Nat.reduceEqDiff, reduceIte, Bool.true_eq_false, and_true, true_and, and_self, Option.isSome_some, Option.isSome_none, List.append_nil, List.nil_append, List.cons_append, Nat.zero_add, Nat.add_zero, eq_self, Int.cast_ofNat_Int, Int.reduceEq, Int.reduceNe, Int.reduceLT, Int.reduceLE, Int.reduceNeg, Int.reduceAdd, Int.reduceSub, Int.reduceMul, b_held, hl, q, List.map_cons, List.map_nil, Bool.true_and, Bool.false_and]
/-- what the program and the law tell of a kind -/
structure Kd (wd : List PD) (pl z : Str) (g : Bool) (v : Nat) : Prop where
  l : 2 ≤ v
  u : v ≤ 128
  ck : ∀ st, F_check_kind [.d (.str z)] st = .ok (.d .none) st
  lim : ∀ st, F_limits_in [.d (sch wd pl), .d (.str z)] st = .ok (.d (.tuple [.int (lo g v), .int (hi g v)])) st
  hel : ∀ st, F_held [.d (sch wd pl), .d (.str z), .d (.int (-1))] st = .ok (.d (.bool g)) st
  int : ∀ x st, F_into [.d (sch wd pl), .d (.str z), .d (.int x)] st = .ok (.d (.int (cv g v x))) st
  ends : ∀ st, F__law_ends [.d (sch wd pl), .d (.str z)] st = .ok (.d (.tuple [.int (lo g v), .int (hi g v)])) st
  uns : ∀ st, F__law_is_unsigned [.d (sch wd pl), .d (.str z)] st = .ok (.d (.bool (!g))) st
  bit : ∀ st, F__law_bits [.d (sch wd pl), .d (.str z)] st = .ok (.d (.int (v : Int))) st
theorem p2s {v : Nat} (h : 1 ≤ v) : (2 : Int) ^ v = 2 * 2 ^ (v - 1) := by
  obtain ⟨k, rfl⟩ : ∃ k, v = k + 1 := ⟨v - 1, by omega⟩
  rw [show k + 1 - 1 = k by omega, Int.pow_succ]
  omega
theorem p2p (v : Nat) : (0 : Int) < 2 ^ v := Int.pow_pos (by decide)
theorem dbl (v0 v1 v2 : Option Va) (st : Sto) : ∀ (k j : Nat) (xs : List Va) (w : Option Va), xs.length = k → j + k ≤ 128 → ∃ w', forL (gN 4) (xSet 3 (s2 oMul (sV 3) (sK (.int 2)))) xs [v0, v1, v2, some (.d (.int (2 ^ j))), w] st = .ok (.nx [v0, v1, v2, some (.d (.int (2 ^ (j + k)))), w']) st
  | 0, j, [], w, _, _ => ⟨w, rfl⟩
  | k + 1, j, x :: xs, w, hl, hj => by
    have m := mul_sm (st := st) (i := 2 ^ j) (j := 2) (Int.le_of_lt (Int.pow_pos (by decide))) (by
      have : (2 : Int) ^ j ≤ 2 ^ 128 := by exact_mod_cast Nat.pow_le_pow_right (by decide : 0 < 2) (by omega : j ≤ 128)
      exact Int.lt_of_le_of_lt this (by decide)) (by decide) (by decide)
    have e : (2 : Int) ^ j * 2 = 2 ^ (j + 1) := (Int.pow_succ _ _).symm
    rw [e] at m
    obtain ⟨w', ih⟩ := dbl v0 v1 v2 st k (j + 1) xs (some x) (by simpa using hl) (by omega)
    refine ⟨w', (forL_nx (e1 := [v0, v1, v2, some (.d (.int (2 ^ j))), some x]) rfl ?_).trans (by rw [show j + (k + 1) = j + 1 + k by omega]; exact ih)⟩
    simp only [bind_ok, bindN_ok, toS_ok, lift_some, sK_ap, sV_ap, s2_ap, sF_ap, aNil_ap, aCons_ap, sTup_ap, sLst_ap, sLstM_ap, sNeg_ap, sIf_ap, sCl_ap, sKget_ap, sKgetI_ap, sKin_ap, sKnin_ap, sIsi_ap, sCh_ap, sFK_ap, sMt_ap, sNot_ap, sAnd_ap, sOr_ap, tB_ap, tT_ap, tNot_ap, tAnd_ap, tOr_ap, oNo_ap, oSo_ap, sSl_ap, sIt_ap, sEnm_ap, sRg1_ap, sRg2_ap, xSeq_ap, xNil_ap, xRet_ap, xRetN_ap, xExp_ap, xSet_ap, xAsg_ap, xPar_ap, xPar3_ap, xIf_ap, xPut_ap, xFor_ap, gN_ap, gsN_ap, gsC_ap, gT_ap, add_ii, sub_ii, lt_ii, le_ii, gt_ii, ge_ii, eq_ii, ne_ii, eq_ss, ne_ss, mkT_ap, allD_nil, allD_d, items_tup, items_lst, walk_lst, walk_tup, walk_s, froz_tup, froz_lst, tru_bl, tru_int, tru_no, len_tup, len_lst, len_s, min_ii, max_ii, int_bl, int_in, tuple_tup, tuple_lst, tyN_int, tyN_tup, tyN_str, kit_ib, kit_ii, kit_tt, kit_st, kit_it, enum_nil, enum_cons, for_nil, List.getElem?_cons_zero, List.getElem?_cons_succ, List.set_cons_zero, List.set_cons_succ, List.length_cons, List.length_nil, Option.map_some, Option.bind_some, Bool.not_true, Bool.not_false, decide_true, decide_false, decide_eq_true_eq, if_true, if_false, Bool.false_eq_true, Nat.reduceAdd, Nat.reduceSub, Nat.reduceLeDiff, Nat.reduceMul, Nat.reduceLT, Nat.reduceEqDiff, reduceIte, Bool.true_eq_false, and_true, true_and, and_self, Option.isSome_some, Option.isSome_none, List.append_nil, List.nil_append, List.cons_append, Nat.zero_add, Nat.add_zero, eq_self, Int.cast_ofNat_Int, Int.reduceEq, Int.reduceNe, Int.reduceLT, Int.reduceLE, Int.reduceNeg, Int.reduceAdd, Int.reduceSub, Int.reduceMul, m]
  | 0, _, _ :: _, _, h, _ => by cases h
  | _ + 1, _, [], _, h, _ => by cases h
theorem kd_of {v : Nat} (hp : pl = "s" ∨ pl = "u") (L : Lab z r ix sg) (h : (wds a b c d e)[r]? = some (.int (v : Int))) (hv0 : 2 ≤ v) (hv : v ≤ 128) : Kd (wds a b c d e) pl z (sg pl) v := by
  have bit : ∀ st, F__law_bits [.d (sch (wds a b c d e) pl), .d (.str z)] st = .ok (.d (.int (v : Int))) st := fun st => by
    rw [L.lb, List.getD_eq_getElem?_getD, h]
    rfl
  refine ⟨hv0, hv, kind_ok L, lims_ok L h hv0 hv hp, fun st => ?_, fun x => into_ok L h hv0 hv hp, fun st => ?_, L.lu _ pl hp, bit⟩
  · rw [held_ok (x := -1) (lims_ok L h hv0 hv hp) st]
    have p := p2p (v - 1)
    have q := p2s (v := v) (by omega)
    cases hs : sg pl
    · rfl
    · have e1 : lo true v ≤ -1 := by
        show -(2 : Int) ^ (v - 1) ≤ -1
        omega
      have e2 : -1 ≤ hi true v := by
        show -1 ≤ -(2 : Int) ^ (v - 1) + 2 ^ v - 1
        omega
      rw [decide_eq_true e1, decide_eq_true e2]
      rfl
  · refine dF_pure rfl ?_
    show b__law_ends [some (.d (sch (wds a b c d e) pl)), some (.d (.str z)), none, none, none] ⟨st.obs, st.n⟩ = _
    have bd : -(2 ^ 62) ≤ ((v : Int) - 1) ∧ ((v : Int) - 1) < 2 ^ 62 := by omega
    obtain ⟨w, run⟩ := dbl (some (.d (sch (wds a b c d e) pl))) (some (.d (.str z))) (some (.d (.int (v : Int)))) ⟨st.obs, st.n⟩ (v - 1) 0 (rngL 0 ((v : Int) - 1).toNat) none (by rw [rngL_len]; omega) (by omega)
    rw [Nat.zero_add, show (2 : Int) ^ 0 = 1 from rfl] at run
    have ps := p2s (v := v) (by omega)
    have pl128 : (2 : Int) ^ (v - 1) ≤ 2 ^ 128 := by exact_mod_cast Nat.pow_le_pow_right (by decide : 0 < 2) (by omega : v - 1 ≤ 128)
    have ml := mul_sm (st := ⟨st.obs, st.n⟩) (i := 2 ^ (v - 1)) (j := 2) (Int.le_of_lt (p2p _)) (Int.lt_of_le_of_lt pl128 (by decide)) (by decide) (by decide)
    have z2 : 2 ≤ sizeLine := by decide
    refine xSeq_nx (e := [some (.d (sch (wds a b c d e) pl)), some (.d (.str z)), some (.d (.int (v : Int))), none, none]) (s := ⟨st.obs, st.n⟩) (by simp only [bind_ok, bindN_ok, toS_ok, lift_some, sK_ap, sV_ap, s2_ap, sF_ap, aNil_ap, aCons_ap, sTup_ap, sLst_ap, sLstM_ap, sNeg_ap, sIf_ap, sCl_ap, sKget_ap, sKgetI_ap, sKin_ap, sKnin_ap, sIsi_ap, sCh_ap, sFK_ap, sMt_ap, sNot_ap, sAnd_ap, sOr_ap, tB_ap, tT_ap, tNot_ap, tAnd_ap, tOr_ap, oNo_ap, oSo_ap, sSl_ap, sIt_ap, sEnm_ap, sRg1_ap, sRg2_ap, xSeq_ap, xNil_ap, xRet_ap, xRetN_ap, xExp_ap, xSet_ap, xAsg_ap, xPar_ap, xPar3_ap, xIf_ap, xPut_ap, xFor_ap, gN_ap, gsN_ap, gsC_ap, gT_ap, add_ii, sub_ii, lt_ii, le_ii, gt_ii, ge_ii, eq_ii, ne_ii, eq_ss, ne_ss, mkT_ap, allD_nil, allD_d, items_tup, items_lst, walk_lst, walk_tup, walk_s, froz_tup, froz_lst, tru_bl, tru_int, tru_no, len_tup, len_lst, len_s, min_ii, max_ii, int_bl, int_in, tuple_tup, tuple_lst, tyN_int, tyN_tup, tyN_str, kit_ib, kit_ii, kit_tt, kit_st, kit_it, enum_nil, enum_cons, for_nil, List.getElem?_cons_zero, List.getElem?_cons_succ, List.set_cons_zero, List.set_cons_succ, List.length_cons, List.length_nil, Option.map_some, Option.bind_some, Bool.not_true, Bool.not_false, decide_true, decide_false, decide_eq_true_eq, if_true, if_false, Bool.false_eq_true, Nat.reduceAdd, Nat.reduceSub, Nat.reduceLeDiff, Nat.reduceMul, Nat.reduceLT, Nat.reduceEqDiff, reduceIte, Bool.true_eq_false, and_true, true_and, and_self, Option.isSome_some, Option.isSome_none, List.append_nil, List.nil_append, List.cons_append, Nat.zero_add, Nat.add_zero, eq_self, Int.cast_ofNat_Int, Int.reduceEq, Int.reduceNe, Int.reduceLT, Int.reduceLE, Int.reduceNeg, Int.reduceAdd, Int.reduceSub, Int.reduceMul, bit]) ?_
    refine xSeq_nx (e := [some (.d (sch (wds a b c d e) pl)), some (.d (.str z)), some (.d (.int (v : Int))), some (.d (.int 1)), none]) (s := ⟨st.obs, st.n⟩) (by simp only [bind_ok, bindN_ok, toS_ok, lift_some, sK_ap, sV_ap, s2_ap, sF_ap, aNil_ap, aCons_ap, sTup_ap, sLst_ap, sLstM_ap, sNeg_ap, sIf_ap, sCl_ap, sKget_ap, sKgetI_ap, sKin_ap, sKnin_ap, sIsi_ap, sCh_ap, sFK_ap, sMt_ap, sNot_ap, sAnd_ap, sOr_ap, tB_ap, tT_ap, tNot_ap, tAnd_ap, tOr_ap, oNo_ap, oSo_ap, sSl_ap, sIt_ap, sEnm_ap, sRg1_ap, sRg2_ap, xSeq_ap, xNil_ap, xRet_ap, xRetN_ap, xExp_ap, xSet_ap, xAsg_ap, xPar_ap, xPar3_ap, xIf_ap, xPut_ap, xFor_ap, gN_ap, gsN_ap, gsC_ap, gT_ap, add_ii, sub_ii, lt_ii, le_ii, gt_ii, ge_ii, eq_ii, ne_ii, eq_ss, ne_ss, mkT_ap, allD_nil, allD_d, items_tup, items_lst, walk_lst, walk_tup, walk_s, froz_tup, froz_lst, tru_bl, tru_int, tru_no, len_tup, len_lst, len_s, min_ii, max_ii, int_bl, int_in, tuple_tup, tuple_lst, tyN_int, tyN_tup, tyN_str, kit_ib, kit_ii, kit_tt, kit_st, kit_it, enum_nil, enum_cons, for_nil, List.getElem?_cons_zero, List.getElem?_cons_succ, List.set_cons_zero, List.set_cons_succ, List.length_cons, List.length_nil, Option.map_some, Option.bind_some, Bool.not_true, Bool.not_false, decide_true, decide_false, decide_eq_true_eq, if_true, if_false, Bool.false_eq_true, Nat.reduceAdd, Nat.reduceSub, Nat.reduceLeDiff, Nat.reduceMul, Nat.reduceLT, Nat.reduceEqDiff, reduceIte, Bool.true_eq_false, and_true, true_and, and_self, Option.isSome_some, Option.isSome_none, List.append_nil, List.nil_append, List.cons_append, Nat.zero_add, Nat.add_zero, eq_self, Int.cast_ofNat_Int, Int.reduceEq, Int.reduceNe, Int.reduceLT, Int.reduceLE, Int.reduceNeg, Int.reduceAdd, Int.reduceSub, Int.reduceMul]) ?_
    refine xSeq_nx (e := _) (s := ⟨st.obs, st.n⟩) (by simp only [bind_ok, bindN_ok, toS_ok, lift_some, sK_ap, sV_ap, s2_ap, sF_ap, aNil_ap, aCons_ap, sTup_ap, sLst_ap, sLstM_ap, sNeg_ap, sIf_ap, sCl_ap, sKget_ap, sKgetI_ap, sKin_ap, sKnin_ap, sIsi_ap, sCh_ap, sFK_ap, sMt_ap, sNot_ap, sAnd_ap, sOr_ap, tB_ap, tT_ap, tNot_ap, tAnd_ap, tOr_ap, oNo_ap, oSo_ap, sSl_ap, sIt_ap, sEnm_ap, sRg1_ap, sRg2_ap, xSeq_ap, xNil_ap, xRet_ap, xRetN_ap, xExp_ap, xSet_ap, xAsg_ap, xPar_ap, xPar3_ap, xIf_ap, xPut_ap, xFor_ap, gN_ap, gsN_ap, gsC_ap, gT_ap, add_ii, sub_ii, lt_ii, le_ii, gt_ii, ge_ii, eq_ii, ne_ii, eq_ss, ne_ss, mkT_ap, allD_nil, allD_d, items_tup, items_lst, walk_lst, walk_tup, walk_s, froz_tup, froz_lst, tru_bl, tru_int, tru_no, len_tup, len_lst, len_s, min_ii, max_ii, int_bl, int_in, tuple_tup, tuple_lst, tyN_int, tyN_tup, tyN_str, kit_ib, kit_ii, kit_tt, kit_st, kit_it, enum_nil, enum_cons, for_nil, List.getElem?_cons_zero, List.getElem?_cons_succ, List.set_cons_zero, List.set_cons_succ, List.length_cons, List.length_nil, Option.map_some, Option.bind_some, Bool.not_true, Bool.not_false, decide_true, decide_false, decide_eq_true_eq, if_true, if_false, Bool.false_eq_true, Nat.reduceAdd, Nat.reduceSub, Nat.reduceLeDiff, Nat.reduceMul, Nat.reduceLT, Nat.reduceEqDiff, reduceIte, Bool.true_eq_false, and_true, true_and, and_self, Option.isSome_some, Option.isSome_none, List.append_nil, List.nil_append, List.cons_append, Nat.zero_add, Nat.add_zero, eq_self, Int.cast_ofNat_Int, Int.reduceEq, Int.reduceNe, Int.reduceLT, Int.reduceLE, Int.reduceNeg, Int.reduceAdd, Int.reduceSub, Int.reduceMul, bd]; exact run) ?_
    have e1 : (2 : Int) ^ (v - 1) * 2 - 1 = hi false v := by
      show _ = (if false = true then -(2 : Int) ^ (v - 1) else 0) + 2 ^ v - 1
      rw [if_neg Bool.false_ne_true]
      omega
    have e2 : (2 : Int) ^ (v - 1) - 1 = hi true v := by
      show _ = (if true = true then -(2 : Int) ^ (v - 1) else 0) + 2 ^ v - 1
      rw [if_pos rfl]
      omega
    have e3 : 0 - (2 : Int) ^ (v - 1) = lo true v := by
      show _ = -(2 : Int) ^ (v - 1)
      omega
    cases hs : sg pl
    · simp only [bind_ok, bindN_ok, toS_ok, lift_some, sK_ap, sV_ap, s2_ap, sF_ap, aNil_ap, aCons_ap, sTup_ap, sLst_ap, sLstM_ap, sNeg_ap, sIf_ap, sCl_ap, sKget_ap, sKgetI_ap, sKin_ap, sKnin_ap, sIsi_ap, sCh_ap, sFK_ap, sMt_ap, sNot_ap, sAnd_ap, sOr_ap, tB_ap, tT_ap, tNot_ap, tAnd_ap, tOr_ap, oNo_ap, oSo_ap, sSl_ap, sIt_ap, sEnm_ap, sRg1_ap, sRg2_ap, xSeq_ap, xNil_ap, xRet_ap, xRetN_ap, xExp_ap, xSet_ap, xAsg_ap, xPar_ap, xPar3_ap, xIf_ap, xPut_ap, xFor_ap, gN_ap, gsN_ap, gsC_ap, gT_ap, add_ii, sub_ii, lt_ii, le_ii, gt_ii, ge_ii, eq_ii, ne_ii, eq_ss, ne_ss, mkT_ap, allD_nil, allD_d, items_tup, items_lst, walk_lst, walk_tup, walk_s, froz_tup, froz_lst, tru_bl, tru_int, tru_no, len_tup, len_lst, len_s, min_ii, max_ii, int_bl, int_in, tuple_tup, tuple_lst, tyN_int, tyN_tup, tyN_str, kit_ib, kit_ii, kit_tt, kit_st, kit_it, enum_nil, enum_cons, for_nil, List.getElem?_cons_zero, List.getElem?_cons_succ, List.set_cons_zero, List.set_cons_succ, List.length_cons, List.length_nil, Option.map_some, Option.bind_some, Bool.not_true, Bool.not_false, decide_true, decide_false, decide_eq_true_eq, if_true, if_false, Bool.false_eq_true, Nat.reduceAdd, Nat.reduceSub, Nat.reduceLeDiff, Nat.reduceMul, Nat.reduceLT, Nat.reduceEqDiff, reduceIte, Bool.true_eq_false, and_true, true_and, and_self, Option.isSome_some, Option.isSome_none, List.append_nil, List.nil_append, List.cons_append, Nat.zero_add, Nat.add_zero, eq_self, Int.cast_ofNat_Int, Int.reduceEq, Int.reduceNe, Int.reduceLT, Int.reduceLE, Int.reduceNeg, Int.reduceAdd, Int.reduceSub, Int.reduceMul, L.lu _ pl hp, hs, ml, z2, e1]
      rfl
    · simp only [bind_ok, bindN_ok, toS_ok, lift_some, sK_ap, sV_ap, s2_ap, sF_ap, aNil_ap, aCons_ap, sTup_ap, sLst_ap, sLstM_ap, sNeg_ap, sIf_ap, sCl_ap, sKget_ap, sKgetI_ap, sKin_ap, sKnin_ap, sIsi_ap, sCh_ap, sFK_ap, sMt_ap, sNot_ap, sAnd_ap, sOr_ap, tB_ap, tT_ap, tNot_ap, tAnd_ap, tOr_ap, oNo_ap, oSo_ap, sSl_ap, sIt_ap, sEnm_ap, sRg1_ap, sRg2_ap, xSeq_ap, xNil_ap, xRet_ap, xRetN_ap, xExp_ap, xSet_ap, xAsg_ap, xPar_ap, xPar3_ap, xIf_ap, xPut_ap, xFor_ap, gN_ap, gsN_ap, gsC_ap, gT_ap, add_ii, sub_ii, lt_ii, le_ii, gt_ii, ge_ii, eq_ii, ne_ii, eq_ss, ne_ss, mkT_ap, allD_nil, allD_d, items_tup, items_lst, walk_lst, walk_tup, walk_s, froz_tup, froz_lst, tru_bl, tru_int, tru_no, len_tup, len_lst, len_s, min_ii, max_ii, int_bl, int_in, tuple_tup, tuple_lst, tyN_int, tyN_tup, tyN_str, kit_ib, kit_ii, kit_tt, kit_st, kit_it, enum_nil, enum_cons, for_nil, List.getElem?_cons_zero, List.getElem?_cons_succ, List.set_cons_zero, List.set_cons_succ, List.length_cons, List.length_nil, Option.map_some, Option.bind_some, Bool.not_true, Bool.not_false, decide_true, decide_false, decide_eq_true_eq, if_true, if_false, Bool.false_eq_true, Nat.reduceAdd, Nat.reduceSub, Nat.reduceLeDiff, Nat.reduceMul, Nat.reduceLT, Nat.reduceEqDiff, reduceIte, Bool.true_eq_false, and_true, true_and, and_self, Option.isSome_some, Option.isSome_none, List.append_nil, List.nil_append, List.cons_append, Nat.zero_add, Nat.add_zero, eq_self, Int.cast_ofNat_Int, Int.reduceEq, Int.reduceNe, Int.reduceLT, Int.reduceLE, Int.reduceNeg, Int.reduceAdd, Int.reduceSub, Int.reduceMul, L.lu _ pl hp, hs, ml, z2, e2, e3]
end
end K44

set_option maxHeartbeats 4000000
namespace K44
open PySem PySem.Spec PyProof.Rows L2 Vi
/-- the kinds from rank 2 on -/
def nm : Nat → Bool → Str
  | 2, true => "int"
  | 2, false => "uint"
  | 3, true => "long"
  | 3, false => "ulong"
  | _, true => "wide"
  | _, false => "uwide"
abbrev R234 (r : Nat) : Prop := r = 2 ∨ r = 3 ∨ r = 4
def ixn (r : Nat) (g : Bool) : Nat := 2 * r + (if g = true then 1 else 2)
theorem labN {r : Nat} (h : R234 r) (g : Bool) : Lab (nm r g) r (ixn r g) (fun _ => g) := by
  rcases h with rfl | rfl | rfl <;> cases g <;>
    exact ⟨by decide, by kernel_rfl, fun a b c d e pl st => via2 (by kernel_rfl), fun st => by kernel_rfl, by decide, fun wd pl hp st => via (by rcases hp with rfl | rfl <;> kernel_rfl), fun wd pl hp st => via (by rcases hp with rfl | rfl <;> kernel_rfl)⟩
theorem nm_of {z : Str} {r ix : Nat} {sg : Str → Bool} (h : z ∈ labs) (L : Lab z r ix sg) (h2 : 2 ≤ r) : ∃ g, z = nm r g := by
  have lr := L.rk
  simp only [labs, List.mem_cons, List.not_mem_nil, or_false] at h
  have tell : ∀ {k : Nat}, k_RANKS.find? (fun p => p.1 == z) = some (z, .int (k : Nat)) → r = k := fun {k} e => by
    rw [lr] at e
    have e1 := (Prod.mk.inj (Option.some.inj e)).2
    injection e1 with e2
    exact Int.ofNat.inj e2
  rcases h with rfl | rfl | rfl | rfl | rfl | rfl | rfl | rfl | rfl | rfl | rfl
  · have := tell (k := 0) (by kernel_rfl)
    omega
  · have := tell (k := 0) (by kernel_rfl)
    omega
  · have := tell (k := 0) (by kernel_rfl)
    omega
  · have := tell (k := 1) (by kernel_rfl)
    omega
  · have := tell (k := 1) (by kernel_rfl)
    omega
  · have := tell (k := 2) (by kernel_rfl)
    subst this
    exact ⟨true, rfl⟩
  · have := tell (k := 2) (by kernel_rfl)
    subst this
    exact ⟨false, rfl⟩
  · have := tell (k := 3) (by kernel_rfl)
    subst this
    exact ⟨true, rfl⟩
  · have := tell (k := 3) (by kernel_rfl)
    subst this
    exact ⟨false, rfl⟩
  · have := tell (k := 4) (by kernel_rfl)
    subst this
    exact ⟨true, rfl⟩
  · have := tell (k := 4) (by kernel_rfl)
    subst this
    exact ⟨false, rfl⟩
section
variable {a b c d e : Int} {z : Str} {r ix : Nat} {sg : Str → Bool} {pl : Str}
/-- what both ask of a kind below rank 2 -/
abbrev pg (sg : Str → Bool) (pl : Str) (v w : Int) : Bool := sg pl || decide (v < w)
theorem prom_in {v w : Int} {wd : List PD} (hp : pl = "s" ∨ pl = "u") (L : Lab z r ix sg) (h : wd[r]? = some (.int v)) (h2 : wd[2]? = some (.int w)) (st : Sto) :
    F_promoted_in [.d (sch wd pl), .d (.str z)] st = .ok (.d (.str (if 2 ≤ r then z else if pg sg pl v w = true then "int" else "uint"))) st := by
  refine dF_pure rfl ?_
  show b_promoted_in [some (.d (sch wd pl)), some (.d (.str z))] ⟨st.obs, st.n⟩ = _
  have i0 := ix_tupN (st := ⟨st.obs, st.n⟩) (ds := [.tuple wd, .str pl]) (k := 0) rfl
  have i2 := ix_tupN (st := ⟨st.obs, st.n⟩) (ds := wd) (k := 2) h2
  simp only [bind_ok, bindN_ok, toS_ok, lift_some, sK_ap, sV_ap, s2_ap, sF_ap, aNil_ap, aCons_ap, sTup_ap, sLst_ap, sLstM_ap, sNeg_ap, sIf_ap, sCl_ap, sKget_ap, sKgetI_ap, sKin_ap, sKnin_ap, sIsi_ap, sCh_ap, sFK_ap, sMt_ap, sNot_ap, sAnd_ap, sOr_ap, tB_ap, tT_ap, tNot_ap, tAnd_ap, tOr_ap, oNo_ap, oSo_ap, sSl_ap, sIt_ap, sEnm_ap, sRg1_ap, sRg2_ap, xSeq_ap, xNil_ap, xRet_ap, xRetN_ap, xExp_ap, xSet_ap, xAsg_ap, xPar_ap, xPar3_ap, xIf_ap, xPut_ap, xFor_ap, gN_ap, gsN_ap, gsC_ap, gT_ap, add_ii, sub_ii, lt_ii, le_ii, gt_ii, ge_ii, eq_ii, ne_ii, eq_ss, ne_ss, mkT_ap, allD_nil, allD_d, items_tup, items_lst, walk_lst, walk_tup, walk_s, froz_tup, froz_lst, tru_bl, tru_int, tru_no, len_tup, len_lst, len_s, min_ii, max_ii, int_bl, int_in, tuple_tup, tuple_lst, tyN_int, tyN_tup, tyN_str, kit_ib, kit_ii, kit_tt, kit_st, kit_it, enum_nil, enum_cons, for_nil, List.getElem?_cons_zero, List.getElem?_cons_succ, List.set_cons_zero, List.set_cons_succ, List.length_cons, List.length_nil, Option.map_some, Option.bind_some, Bool.not_true, Bool.not_false, decide_true, decide_false, decide_eq_true_eq, if_true, if_false, Bool.false_eq_true, Nat.reduceAdd, Nat.reduceSub, Nat.reduceLeDiff, Nat.reduceMul, Nat.reduceLT, Nat.reduceEqDiff, reduceIte, Bool.true_eq_false, and_true, true_and, and_self, Option.isSome_some, Option.isSome_none, List.append_nil, List.nil_append, List.cons_append, Nat.zero_add, Nat.add_zero, eq_self, Int.cast_ofNat_Int, Int.reduceEq, Int.reduceNe, Int.reduceLT, Int.reduceLE, Int.reduceNeg, Int.reduceAdd, Int.reduceSub, Int.reduceMul] at i0 i2
  by_cases q : 2 ≤ r
  · have q' : (2 : Int) ≤ (r : Int) := by omega
    simp only [bind_ok, bindN_ok, toS_ok, lift_some, sK_ap, sV_ap, s2_ap, sF_ap, aNil_ap, aCons_ap, sTup_ap, sLst_ap, sLstM_ap, sNeg_ap, sIf_ap, sCl_ap, sKget_ap, sKgetI_ap, sKin_ap, sKnin_ap, sIsi_ap, sCh_ap, sFK_ap, sMt_ap, sNot_ap, sAnd_ap, sOr_ap, tB_ap, tT_ap, tNot_ap, tAnd_ap, tOr_ap, oNo_ap, oSo_ap, sSl_ap, sIt_ap, sEnm_ap, sRg1_ap, sRg2_ap, xSeq_ap, xNil_ap, xRet_ap, xRetN_ap, xExp_ap, xSet_ap, xAsg_ap, xPar_ap, xPar3_ap, xIf_ap, xPut_ap, xFor_ap, gN_ap, gsN_ap, gsC_ap, gT_ap, add_ii, sub_ii, lt_ii, le_ii, gt_ii, ge_ii, eq_ii, ne_ii, eq_ss, ne_ss, mkT_ap, allD_nil, allD_d, items_tup, items_lst, walk_lst, walk_tup, walk_s, froz_tup, froz_lst, tru_bl, tru_int, tru_no, len_tup, len_lst, len_s, min_ii, max_ii, int_bl, int_in, tuple_tup, tuple_lst, tyN_int, tyN_tup, tyN_str, kit_ib, kit_ii, kit_tt, kit_st, kit_it, enum_nil, enum_cons, for_nil, List.getElem?_cons_zero, List.getElem?_cons_succ, List.set_cons_zero, List.set_cons_succ, List.length_cons, List.length_nil, Option.map_some, Option.bind_some, Bool.not_true, Bool.not_false, decide_true, decide_false, decide_eq_true_eq, if_true, if_false, Bool.false_eq_true, Nat.reduceAdd, Nat.reduceSub, Nat.reduceLeDiff, Nat.reduceMul, Nat.reduceLT, Nat.reduceEqDiff, reduceIte, Bool.true_eq_false, and_true, true_and, and_self, Option.isSome_some, Option.isSome_none, List.append_nil, List.nil_append, List.cons_append, Nat.zero_add, Nat.add_zero, eq_self, Int.cast_ofNat_Int, Int.reduceEq, Int.reduceNe, Int.reduceLT, Int.reduceLE, Int.reduceNeg, Int.reduceAdd, Int.reduceSub, Int.reduceMul, b_promoted_in, L.rk, k_INT, q, q']
  · have q' : ¬ (2 : Int) ≤ (r : Int) := by omega
    cases hs : sg pl
    · by_cases k : v < w <;> simp only [bind_ok, bindN_ok, toS_ok, lift_some, sK_ap, sV_ap, s2_ap, sF_ap, aNil_ap, aCons_ap, sTup_ap, sLst_ap, sLstM_ap, sNeg_ap, sIf_ap, sCl_ap, sKget_ap, sKgetI_ap, sKin_ap, sKnin_ap, sIsi_ap, sCh_ap, sFK_ap, sMt_ap, sNot_ap, sAnd_ap, sOr_ap, tB_ap, tT_ap, tNot_ap, tAnd_ap, tOr_ap, oNo_ap, oSo_ap, sSl_ap, sIt_ap, sEnm_ap, sRg1_ap, sRg2_ap, xSeq_ap, xNil_ap, xRet_ap, xRetN_ap, xExp_ap, xSet_ap, xAsg_ap, xPar_ap, xPar3_ap, xIf_ap, xPut_ap, xFor_ap, gN_ap, gsN_ap, gsC_ap, gT_ap, add_ii, sub_ii, lt_ii, le_ii, gt_ii, ge_ii, eq_ii, ne_ii, eq_ss, ne_ss, mkT_ap, allD_nil, allD_d, items_tup, items_lst, walk_lst, walk_tup, walk_s, froz_tup, froz_lst, tru_bl, tru_int, tru_no, len_tup, len_lst, len_s, min_ii, max_ii, int_bl, int_in, tuple_tup, tuple_lst, tyN_int, tyN_tup, tyN_str, kit_ib, kit_ii, kit_tt, kit_st, kit_it, enum_nil, enum_cons, for_nil, List.getElem?_cons_zero, List.getElem?_cons_succ, List.set_cons_zero, List.set_cons_succ, List.length_cons, List.length_nil, Option.map_some, Option.bind_some, Bool.not_true, Bool.not_false, decide_true, decide_false, decide_eq_true_eq, if_true, if_false, Bool.false_eq_true, Nat.reduceAdd, Nat.reduceSub, Nat.reduceLeDiff, Nat.reduceMul, Nat.reduceLT, Nat.reduceEqDiff, reduceIte, Bool.true_eq_false, and_true, true_and, and_self, Option.isSome_some, Option.isSome_none, List.append_nil, List.nil_append, List.cons_append, Nat.zero_add, Nat.add_zero, eq_self, Int.cast_ofNat_Int, Int.reduceEq, Int.reduceNe, Int.reduceLT, Int.reduceLE, Int.reduceNeg, Int.reduceAdd, Int.reduceSub, Int.reduceMul, b_promoted_in, L.rk, k_INT, q, q', L.s1 wd pl hp, hs, bits_ok L h, i0, i2, k, pg, Bool.false_or, Bool.true_or]
    · simp only [bind_ok, bindN_ok, toS_ok, lift_some, sK_ap, sV_ap, s2_ap, sF_ap, aNil_ap, aCons_ap, sTup_ap, sLst_ap, sLstM_ap, sNeg_ap, sIf_ap, sCl_ap, sKget_ap, sKgetI_ap, sKin_ap, sKnin_ap, sIsi_ap, sCh_ap, sFK_ap, sMt_ap, sNot_ap, sAnd_ap, sOr_ap, tB_ap, tT_ap, tNot_ap, tAnd_ap, tOr_ap, oNo_ap, oSo_ap, sSl_ap, sIt_ap, sEnm_ap, sRg1_ap, sRg2_ap, xSeq_ap, xNil_ap, xRet_ap, xRetN_ap, xExp_ap, xSet_ap, xAsg_ap, xPar_ap, xPar3_ap, xIf_ap, xPut_ap, xFor_ap, gN_ap, gsN_ap, gsC_ap, gT_ap, add_ii, sub_ii, lt_ii, le_ii, gt_ii, ge_ii, eq_ii, ne_ii, eq_ss, ne_ss, mkT_ap, allD_nil, allD_d, items_tup, items_lst, walk_lst, walk_tup, walk_s, froz_tup, froz_lst, tru_bl, tru_int, tru_no, len_tup, len_lst, len_s, min_ii, max_ii, int_bl, int_in, tuple_tup, tuple_lst, tyN_int, tyN_tup, tyN_str, kit_ib, kit_ii, kit_tt, kit_st, kit_it, enum_nil, enum_cons, for_nil, List.getElem?_cons_zero, List.getElem?_cons_succ, List.set_cons_zero, List.set_cons_succ, List.length_cons, List.length_nil, Option.map_some, Option.bind_some, Bool.not_true, Bool.not_false, decide_true, decide_false, decide_eq_true_eq, if_true, if_false, Bool.false_eq_true, Nat.reduceAdd, Nat.reduceSub, Nat.reduceLeDiff, Nat.reduceMul, Nat.reduceLT, Nat.reduceEqDiff, reduceIte, Bool.true_eq_false, and_true, true_and, and_self, Option.isSome_some, Option.isSome_none, List.append_nil, List.nil_append, List.cons_append, Nat.zero_add, Nat.add_zero, eq_self, Int.cast_ofNat_Int, Int.reduceEq, Int.reduceNe, Int.reduceLT, Int.reduceLE, Int.reduceNeg, Int.reduceAdd, Int.reduceSub, Int.reduceMul, b_promoted_in, L.rk, k_INT, q, q', L.s1 wd pl hp, hs, pg, Bool.true_or]
theorem sgn_at {r : Nat} (h : R234 r) : k_SIGNED.find? (fun p => p.1 == (r : Int)) = some ((r : Int), .str (nm r true)) := by
  rcases h with rfl | rfl | rfl <;> kernel_rfl
theorem uns_at {r : Nat} (h : R234 r) : k_UNSIGNED.find? (fun p => p.1 == (r : Int)) = some ((r : Int), .str (nm r false)) := by
  rcases h with rfl | rfl | rfl <;> kernel_rfl
theorem max_r {r1 r2 : Nat} : ∃ m : Nat, (∀ st, cMax [.d (.int (r1 : Nat)), .d (.int (r2 : Nat))] st = some (.d (.int (m : Nat)), st)) ∧ ((m = r1 ∧ r2 ≤ r1) ∨ (m = r2 ∧ r1 < r2)) := by
  by_cases h : r1 < r2
  · refine ⟨r2, fun st => ?_, .inr ⟨rfl, h⟩⟩
    rw [max_ii, if_pos (by omega)]
  · refine ⟨r1, fun st => ?_, .inl ⟨rfl, by omega⟩⟩
    rw [max_ii, if_neg (by omega)]
theorem eq_bb {x y : Bool} {st : Sto} : oEq (.d (.bool x)) (.d (.bool y)) st = some (.d (.bool (x == y)), st) := by
  cases x <;> cases y <;> kernel_rfl
def cg (r1 : Nat) (g1 : Bool) (v1 : Int) (r2 : Nat) (g2 : Bool) (v2 : Int) : Bool := match g1, g2 with
  | true, true => true
  | false, false => false
  | false, true => decide (r1 < r2) && decide (v1 < v2)
  | true, false => decide (r2 < r1) && decide (v2 < v1)
theorem cg_comm {r1 r2 : Nat} {g1 g2 : Bool} {v1 v2 : Int} : cg r1 g1 v1 r2 g2 v2 = cg r2 g2 v2 r1 g1 v1 := by
  cases g1 <;> cases g2 <;> rfl
/-- the common kind of two such: prog, law -/
theorem comm_in {wd : List PD} {z1 z2 : Str} {r1 r2 : Nat} {g1 g2 : Bool} {v1 v2 : Int} (hp : pl = "s" ∨ pl = "u") (h1 : R234 r1) (h2 : R234 r2) (p1 : ∀ st, F_promoted_in [.d (sch wd pl), .d (.str z1)] st = .ok (.d (.str (nm r1 g1))) st) (p2 : ∀ st, F_promoted_in [.d (sch wd pl), .d (.str z2)] st = .ok (.d (.str (nm r2 g2))) st) (w1 : wd[r1]? = some (.int v1)) (w2 : wd[r2]? = some (.int v2)) :
    ∃ r g, R234 r ∧ (∀ st, F_common_in [.d (sch wd pl), .d (.str z1), .d (.str z2)] st = .ok (.d (.str (nm r g))) st) ∧ ((r = r1 ∧ r2 ≤ r1) ∨ (r = r2 ∧ r1 < r2)) ∧ g = cg r1 g1 v1 r2 g2 v2 := by
  obtain ⟨m, hm, hc⟩ := max_r (r1 := r1) (r2 := r2)
  have hr : R234 m := by omega
  have L1 := labN h1 g1
  have L2 := labN h2 g2
  obtain ⟨vm, wm⟩ : ∃ vm : Int, wd[m]? = some (.int vm) := by
    rcases hc with ⟨rfl, _⟩ | ⟨rfl, _⟩
    · exact ⟨_, w1⟩
    · exact ⟨_, w2⟩
  have i0 := fun st => ix_tupN (st := st) (ds := [.tuple wd, .str pl]) (k := 0) rfl
  have im := fun st => ix_tupN (st := st) (ds := wd) (k := m) wm
  have i1 := fun st => ix_tupN (st := st) (ds := wd) (k := r1) w1
  have i2 := fun st => ix_tupN (st := st) (ds := wd) (k := r2) w2
  have z2' : 2 ≤ sizeLine := by decide
  simp only [bind_ok, bindN_ok, toS_ok, lift_some, sK_ap, sV_ap, s2_ap, sF_ap, aNil_ap, aCons_ap, sTup_ap, sLst_ap, sLstM_ap, sNeg_ap, sIf_ap, sCl_ap, sKget_ap, sKgetI_ap, sKin_ap, sKnin_ap, sIsi_ap, sCh_ap, sFK_ap, sMt_ap, sNot_ap, sAnd_ap, sOr_ap, tB_ap, tT_ap, tNot_ap, tAnd_ap, tOr_ap, oNo_ap, oSo_ap, sSl_ap, sIt_ap, sEnm_ap, sRg1_ap, sRg2_ap, xSeq_ap, xNil_ap, xRet_ap, xRetN_ap, xExp_ap, xSet_ap, xAsg_ap, xPar_ap, xPar3_ap, xIf_ap, xPut_ap, xFor_ap, gN_ap, gsN_ap, gsC_ap, gT_ap, add_ii, sub_ii, lt_ii, le_ii, gt_ii, ge_ii, eq_ii, ne_ii, eq_ss, ne_ss, mkT_ap, allD_nil, allD_d, items_tup, items_lst, walk_lst, walk_tup, walk_s, froz_tup, froz_lst, tru_bl, tru_int, tru_no, len_tup, len_lst, len_s, min_ii, max_ii, int_bl, int_in, tuple_tup, tuple_lst, tyN_int, tyN_tup, tyN_str, kit_ib, kit_ii, kit_tt, kit_st, kit_it, enum_nil, enum_cons, for_nil, List.getElem?_cons_zero, List.getElem?_cons_succ, List.set_cons_zero, List.set_cons_succ, List.length_cons, List.length_nil, Option.map_some, Option.bind_some, Bool.not_true, Bool.not_false, decide_true, decide_false, decide_eq_true_eq, if_true, if_false, Bool.false_eq_true, Nat.reduceAdd, Nat.reduceSub, Nat.reduceLeDiff, Nat.reduceMul, Nat.reduceLT, Nat.reduceEqDiff, reduceIte, Bool.true_eq_false, and_true, true_and, and_self, Option.isSome_some, Option.isSome_none, List.append_nil, List.nil_append, List.cons_append, Nat.zero_add, Nat.add_zero, eq_self, Int.cast_ofNat_Int, Int.reduceEq, Int.reduceNe, Int.reduceLT, Int.reduceLE, Int.reduceNeg, Int.reduceAdd, Int.reduceSub, Int.reduceMul] at i0
  have run1 : ∀ {x : Str} , (∀ st : Sto, b_common_in [some (.d (sch wd pl)), some (.d (.str z1)), some (.d (.str z2)), none, none, none, none, none] st = .ok (.rt (.d (.str x))) st) → ∀ st, F_common_in [.d (sch wd pl), .d (.str z1), .d (.str z2)] st = .ok (.d (.str x)) st := fun h st => dF_pure rfl (h _)
  have bt : (true == true) = true := rfl
  have bf : (false == false) = true := rfl
  have btf : (true == false) = false := rfl
  have bft : (false == true) = false := rfl
  cases g1 <;> cases g2
  · refine ⟨m, false, hr, run1 fun st => ?_, hc, by simp [cg]⟩
    · simp only [bind_ok, bindN_ok, toS_ok, lift_some, sK_ap, sV_ap, s2_ap, sF_ap, aNil_ap, aCons_ap, sTup_ap, sLst_ap, sLstM_ap, sNeg_ap, sIf_ap, sCl_ap, sKget_ap, sKgetI_ap, sKin_ap, sKnin_ap, sIsi_ap, sCh_ap, sFK_ap, sMt_ap, sNot_ap, sAnd_ap, sOr_ap, tB_ap, tT_ap, tNot_ap, tAnd_ap, tOr_ap, oNo_ap, oSo_ap, sSl_ap, sIt_ap, sEnm_ap, sRg1_ap, sRg2_ap, xSeq_ap, xNil_ap, xRet_ap, xRetN_ap, xExp_ap, xSet_ap, xAsg_ap, xPar_ap, xPar3_ap, xIf_ap, xPut_ap, xFor_ap, gN_ap, gsN_ap, gsC_ap, gT_ap, add_ii, sub_ii, lt_ii, le_ii, gt_ii, ge_ii, eq_ii, ne_ii, eq_ss, ne_ss, mkT_ap, allD_nil, allD_d, items_tup, items_lst, walk_lst, walk_tup, walk_s, froz_tup, froz_lst, tru_bl, tru_int, tru_no, len_tup, len_lst, len_s, min_ii, max_ii, int_bl, int_in, tuple_tup, tuple_lst, tyN_int, tyN_tup, tyN_str, kit_ib, kit_ii, kit_tt, kit_st, kit_it, enum_nil, enum_cons, for_nil, List.getElem?_cons_zero, List.getElem?_cons_succ, List.set_cons_zero, List.set_cons_succ, List.length_cons, List.length_nil, Option.map_some, Option.bind_some, Bool.not_true, Bool.not_false, decide_true, decide_false, decide_eq_true_eq, if_true, if_false, Bool.false_eq_true, Nat.reduceAdd, Nat.reduceSub, Nat.reduceLeDiff, Nat.reduceMul, Nat.reduceLT, Nat.reduceEqDiff, reduceIte, Bool.true_eq_false, and_true, true_and, and_self, Option.isSome_some, Option.isSome_none, List.append_nil, List.nil_append, List.cons_append, Nat.zero_add, Nat.add_zero, eq_self, Int.cast_ofNat_Int, Int.reduceEq, Int.reduceNe, Int.reduceLT, Int.reduceLE, Int.reduceNeg, Int.reduceAdd, Int.reduceSub, Int.reduceMul, b_common_in, p1, p2, L1.rk, L2.rk, hm, L1.s1 wd pl hp, L2.s1 wd pl hp, eq_bb, bt, bf, btf, bft, uns_at hr, sgn_at hr]
  · -- unsigned, signed
    have sm := sgn_at hr
    have um := uns_at hr
    by_cases q : r1 < r2
    · have em : m = r2 := by omega
      have ev : vm = v2 := by
        subst em
        rw [wm] at w2
        injection w2 with e1
        injection e1
      have q' : (r1 : Int) < (r2 : Int) := by omega
      subst ev
      by_cases k : v1 < vm
      · refine ⟨m, true, hr, run1 fun st => ?_, hc, by simp [cg, q, k]⟩
        · rw [em]
          simp only [bind_ok, bindN_ok, toS_ok, lift_some, sK_ap, sV_ap, s2_ap, sF_ap, aNil_ap, aCons_ap, sTup_ap, sLst_ap, sLstM_ap, sNeg_ap, sIf_ap, sCl_ap, sKget_ap, sKgetI_ap, sKin_ap, sKnin_ap, sIsi_ap, sCh_ap, sFK_ap, sMt_ap, sNot_ap, sAnd_ap, sOr_ap, tB_ap, tT_ap, tNot_ap, tAnd_ap, tOr_ap, oNo_ap, oSo_ap, sSl_ap, sIt_ap, sEnm_ap, sRg1_ap, sRg2_ap, xSeq_ap, xNil_ap, xRet_ap, xRetN_ap, xExp_ap, xSet_ap, xAsg_ap, xPar_ap, xPar3_ap, xIf_ap, xPut_ap, xFor_ap, gN_ap, gsN_ap, gsC_ap, gT_ap, add_ii, sub_ii, lt_ii, le_ii, gt_ii, ge_ii, eq_ii, ne_ii, eq_ss, ne_ss, mkT_ap, allD_nil, allD_d, items_tup, items_lst, walk_lst, walk_tup, walk_s, froz_tup, froz_lst, tru_bl, tru_int, tru_no, len_tup, len_lst, len_s, min_ii, max_ii, int_bl, int_in, tuple_tup, tuple_lst, tyN_int, tyN_tup, tyN_str, kit_ib, kit_ii, kit_tt, kit_st, kit_it, enum_nil, enum_cons, for_nil, List.getElem?_cons_zero, List.getElem?_cons_succ, List.set_cons_zero, List.set_cons_succ, List.length_cons, List.length_nil, Option.map_some, Option.bind_some, Bool.not_true, Bool.not_false, decide_true, decide_false, decide_eq_true_eq, if_true, if_false, Bool.false_eq_true, Nat.reduceAdd, Nat.reduceSub, Nat.reduceLeDiff, Nat.reduceMul, Nat.reduceLT, Nat.reduceEqDiff, reduceIte, Bool.true_eq_false, and_true, true_and, and_self, Option.isSome_some, Option.isSome_none, List.append_nil, List.nil_append, List.cons_append, Nat.zero_add, Nat.add_zero, eq_self, Int.cast_ofNat_Int, Int.reduceEq, Int.reduceNe, Int.reduceLT, Int.reduceLE, Int.reduceNeg, Int.reduceAdd, Int.reduceSub, Int.reduceMul, b_common_in, p1, p2, L1.rk, L2.rk, hm, L1.s1 wd pl hp, L2.s1 wd pl hp, eq_bb, bt, bf, btf, bft, um, sm, z2', bits_ok L1 w1, bits_ok L2 w2, q', k, List.map_cons, List.map_nil]
      · refine ⟨m, false, hr, run1 fun st => ?_, hc, by simp [cg, q, k]⟩
        · simp only [bind_ok, bindN_ok, toS_ok, lift_some, sK_ap, sV_ap, s2_ap, sF_ap, aNil_ap, aCons_ap, sTup_ap, sLst_ap, sLstM_ap, sNeg_ap, sIf_ap, sCl_ap, sKget_ap, sKgetI_ap, sKin_ap, sKnin_ap, sIsi_ap, sCh_ap, sFK_ap, sMt_ap, sNot_ap, sAnd_ap, sOr_ap, tB_ap, tT_ap, tNot_ap, tAnd_ap, tOr_ap, oNo_ap, oSo_ap, sSl_ap, sIt_ap, sEnm_ap, sRg1_ap, sRg2_ap, xSeq_ap, xNil_ap, xRet_ap, xRetN_ap, xExp_ap, xSet_ap, xAsg_ap, xPar_ap, xPar3_ap, xIf_ap, xPut_ap, xFor_ap, gN_ap, gsN_ap, gsC_ap, gT_ap, add_ii, sub_ii, lt_ii, le_ii, gt_ii, ge_ii, eq_ii, ne_ii, eq_ss, ne_ss, mkT_ap, allD_nil, allD_d, items_tup, items_lst, walk_lst, walk_tup, walk_s, froz_tup, froz_lst, tru_bl, tru_int, tru_no, len_tup, len_lst, len_s, min_ii, max_ii, int_bl, int_in, tuple_tup, tuple_lst, tyN_int, tyN_tup, tyN_str, kit_ib, kit_ii, kit_tt, kit_st, kit_it, enum_nil, enum_cons, for_nil, List.getElem?_cons_zero, List.getElem?_cons_succ, List.set_cons_zero, List.set_cons_succ, List.length_cons, List.length_nil, Option.map_some, Option.bind_some, Bool.not_true, Bool.not_false, decide_true, decide_false, decide_eq_true_eq, if_true, if_false, Bool.false_eq_true, Nat.reduceAdd, Nat.reduceSub, Nat.reduceLeDiff, Nat.reduceMul, Nat.reduceLT, Nat.reduceEqDiff, reduceIte, Bool.true_eq_false, and_true, true_and, and_self, Option.isSome_some, Option.isSome_none, List.append_nil, List.nil_append, List.cons_append, Nat.zero_add, Nat.add_zero, eq_self, Int.cast_ofNat_Int, Int.reduceEq, Int.reduceNe, Int.reduceLT, Int.reduceLE, Int.reduceNeg, Int.reduceAdd, Int.reduceSub, Int.reduceMul, b_common_in, p1, p2, L1.rk, L2.rk, hm, L1.s1 wd pl hp, L2.s1 wd pl hp, eq_bb, bt, bf, btf, bft, um, sm, z2', bits_ok L1 w1, bits_ok L2 w2, q', k, List.map_cons, List.map_nil]
    · have em : m = r1 := by omega
      have q' : ¬ (r1 : Int) < (r2 : Int) := by omega
      have q2 : ¬ (r1 : Int) < (m : Int) := by omega
      refine ⟨m, false, hr, run1 fun st => ?_, hc, by simp [cg, q]⟩
      · simp only [bind_ok, bindN_ok, toS_ok, lift_some, sK_ap, sV_ap, s2_ap, sF_ap, aNil_ap, aCons_ap, sTup_ap, sLst_ap, sLstM_ap, sNeg_ap, sIf_ap, sCl_ap, sKget_ap, sKgetI_ap, sKin_ap, sKnin_ap, sIsi_ap, sCh_ap, sFK_ap, sMt_ap, sNot_ap, sAnd_ap, sOr_ap, tB_ap, tT_ap, tNot_ap, tAnd_ap, tOr_ap, oNo_ap, oSo_ap, sSl_ap, sIt_ap, sEnm_ap, sRg1_ap, sRg2_ap, xSeq_ap, xNil_ap, xRet_ap, xRetN_ap, xExp_ap, xSet_ap, xAsg_ap, xPar_ap, xPar3_ap, xIf_ap, xPut_ap, xFor_ap, gN_ap, gsN_ap, gsC_ap, gT_ap, add_ii, sub_ii, lt_ii, le_ii, gt_ii, ge_ii, eq_ii, ne_ii, eq_ss, ne_ss, mkT_ap, allD_nil, allD_d, items_tup, items_lst, walk_lst, walk_tup, walk_s, froz_tup, froz_lst, tru_bl, tru_int, tru_no, len_tup, len_lst, len_s, min_ii, max_ii, int_bl, int_in, tuple_tup, tuple_lst, tyN_int, tyN_tup, tyN_str, kit_ib, kit_ii, kit_tt, kit_st, kit_it, enum_nil, enum_cons, for_nil, List.getElem?_cons_zero, List.getElem?_cons_succ, List.set_cons_zero, List.set_cons_succ, List.length_cons, List.length_nil, Option.map_some, Option.bind_some, Bool.not_true, Bool.not_false, decide_true, decide_false, decide_eq_true_eq, if_true, if_false, Bool.false_eq_true, Nat.reduceAdd, Nat.reduceSub, Nat.reduceLeDiff, Nat.reduceMul, Nat.reduceLT, Nat.reduceEqDiff, reduceIte, Bool.true_eq_false, and_true, true_and, and_self, Option.isSome_some, Option.isSome_none, List.append_nil, List.nil_append, List.cons_append, Nat.zero_add, Nat.add_zero, eq_self, Int.cast_ofNat_Int, Int.reduceEq, Int.reduceNe, Int.reduceLT, Int.reduceLE, Int.reduceNeg, Int.reduceAdd, Int.reduceSub, Int.reduceMul, b_common_in, p1, p2, L1.rk, L2.rk, hm, L1.s1 wd pl hp, L2.s1 wd pl hp, eq_bb, bt, bf, btf, bft, um, sm, z2', bits_ok L1 w1, bits_ok L2 w2, q', List.map_cons, List.map_nil]
  · have sm := sgn_at hr
    have um := uns_at hr
    by_cases q : r2 < r1
    · have em : m = r1 := by omega
      have ev : vm = v1 := by
        subst em
        rw [wm] at w1
        injection w1 with e1
        injection e1
      have q' : (r2 : Int) < (r1 : Int) := by omega
      subst ev
      by_cases k : v2 < vm
      · refine ⟨m, true, hr, run1 fun st => ?_, hc, by simp [cg, q, k]⟩
        · rw [em]
          simp only [bind_ok, bindN_ok, toS_ok, lift_some, sK_ap, sV_ap, s2_ap, sF_ap, aNil_ap, aCons_ap, sTup_ap, sLst_ap, sLstM_ap, sNeg_ap, sIf_ap, sCl_ap, sKget_ap, sKgetI_ap, sKin_ap, sKnin_ap, sIsi_ap, sCh_ap, sFK_ap, sMt_ap, sNot_ap, sAnd_ap, sOr_ap, tB_ap, tT_ap, tNot_ap, tAnd_ap, tOr_ap, oNo_ap, oSo_ap, sSl_ap, sIt_ap, sEnm_ap, sRg1_ap, sRg2_ap, xSeq_ap, xNil_ap, xRet_ap, xRetN_ap, xExp_ap, xSet_ap, xAsg_ap, xPar_ap, xPar3_ap, xIf_ap, xPut_ap, xFor_ap, gN_ap, gsN_ap, gsC_ap, gT_ap, add_ii, sub_ii, lt_ii, le_ii, gt_ii, ge_ii, eq_ii, ne_ii, eq_ss, ne_ss, mkT_ap, allD_nil, allD_d, items_tup, items_lst, walk_lst, walk_tup, walk_s, froz_tup, froz_lst, tru_bl, tru_int, tru_no, len_tup, len_lst, len_s, min_ii, max_ii, int_bl, int_in, tuple_tup, tuple_lst, tyN_int, tyN_tup, tyN_str, kit_ib, kit_ii, kit_tt, kit_st, kit_it, enum_nil, enum_cons, for_nil, List.getElem?_cons_zero, List.getElem?_cons_succ, List.set_cons_zero, List.set_cons_succ, List.length_cons, List.length_nil, Option.map_some, Option.bind_some, Bool.not_true, Bool.not_false, decide_true, decide_false, decide_eq_true_eq, if_true, if_false, Bool.false_eq_true, Nat.reduceAdd, Nat.reduceSub, Nat.reduceLeDiff, Nat.reduceMul, Nat.reduceLT, Nat.reduceEqDiff, reduceIte, Bool.true_eq_false, and_true, true_and, and_self, Option.isSome_some, Option.isSome_none, List.append_nil, List.nil_append, List.cons_append, Nat.zero_add, Nat.add_zero, eq_self, Int.cast_ofNat_Int, Int.reduceEq, Int.reduceNe, Int.reduceLT, Int.reduceLE, Int.reduceNeg, Int.reduceAdd, Int.reduceSub, Int.reduceMul, b_common_in, p1, p2, L1.rk, L2.rk, hm, L1.s1 wd pl hp, L2.s1 wd pl hp, eq_bb, bt, bf, btf, bft, um, sm, z2', bits_ok L1 w1, bits_ok L2 w2, q', k, List.map_cons, List.map_nil]
      · refine ⟨m, false, hr, run1 fun st => ?_, hc, by simp [cg, q, k]⟩
        · simp only [bind_ok, bindN_ok, toS_ok, lift_some, sK_ap, sV_ap, s2_ap, sF_ap, aNil_ap, aCons_ap, sTup_ap, sLst_ap, sLstM_ap, sNeg_ap, sIf_ap, sCl_ap, sKget_ap, sKgetI_ap, sKin_ap, sKnin_ap, sIsi_ap, sCh_ap, sFK_ap, sMt_ap, sNot_ap, sAnd_ap, sOr_ap, tB_ap, tT_ap, tNot_ap, tAnd_ap, tOr_ap, oNo_ap, oSo_ap, sSl_ap, sIt_ap, sEnm_ap, sRg1_ap, sRg2_ap, xSeq_ap, xNil_ap, xRet_ap, xRetN_ap, xExp_ap, xSet_ap, xAsg_ap, xPar_ap, xPar3_ap, xIf_ap, xPut_ap, xFor_ap, gN_ap, gsN_ap, gsC_ap, gT_ap, add_ii, sub_ii, lt_ii, le_ii, gt_ii, ge_ii, eq_ii, ne_ii, eq_ss, ne_ss, mkT_ap, allD_nil, allD_d, items_tup, items_lst, walk_lst, walk_tup, walk_s, froz_tup, froz_lst, tru_bl, tru_int, tru_no, len_tup, len_lst, len_s, min_ii, max_ii, int_bl, int_in, tuple_tup, tuple_lst, tyN_int, tyN_tup, tyN_str, kit_ib, kit_ii, kit_tt, kit_st, kit_it, enum_nil, enum_cons, for_nil, List.getElem?_cons_zero, List.getElem?_cons_succ, List.set_cons_zero, List.set_cons_succ, List.length_cons, List.length_nil, Option.map_some, Option.bind_some, Bool.not_true, Bool.not_false, decide_true, decide_false, decide_eq_true_eq, if_true, if_false, Bool.false_eq_true, Nat.reduceAdd, Nat.reduceSub, Nat.reduceLeDiff, Nat.reduceMul, Nat.reduceLT, Nat.reduceEqDiff, reduceIte, Bool.true_eq_false, and_true, true_and, and_self, Option.isSome_some, Option.isSome_none, List.append_nil, List.nil_append, List.cons_append, Nat.zero_add, Nat.add_zero, eq_self, Int.cast_ofNat_Int, Int.reduceEq, Int.reduceNe, Int.reduceLT, Int.reduceLE, Int.reduceNeg, Int.reduceAdd, Int.reduceSub, Int.reduceMul, b_common_in, p1, p2, L1.rk, L2.rk, hm, L1.s1 wd pl hp, L2.s1 wd pl hp, eq_bb, bt, bf, btf, bft, um, sm, z2', bits_ok L1 w1, bits_ok L2 w2, q', k, List.map_cons, List.map_nil]
    · have q' : ¬ (r2 : Int) < (r1 : Int) := by omega
      have q2 : ¬ (r2 : Int) < (m : Int) := by omega
      refine ⟨m, false, hr, run1 fun st => ?_, hc, by simp [cg, q]⟩
      · simp only [bind_ok, bindN_ok, toS_ok, lift_some, sK_ap, sV_ap, s2_ap, sF_ap, aNil_ap, aCons_ap, sTup_ap, sLst_ap, sLstM_ap, sNeg_ap, sIf_ap, sCl_ap, sKget_ap, sKgetI_ap, sKin_ap, sKnin_ap, sIsi_ap, sCh_ap, sFK_ap, sMt_ap, sNot_ap, sAnd_ap, sOr_ap, tB_ap, tT_ap, tNot_ap, tAnd_ap, tOr_ap, oNo_ap, oSo_ap, sSl_ap, sIt_ap, sEnm_ap, sRg1_ap, sRg2_ap, xSeq_ap, xNil_ap, xRet_ap, xRetN_ap, xExp_ap, xSet_ap, xAsg_ap, xPar_ap, xPar3_ap, xIf_ap, xPut_ap, xFor_ap, gN_ap, gsN_ap, gsC_ap, gT_ap, add_ii, sub_ii, lt_ii, le_ii, gt_ii, ge_ii, eq_ii, ne_ii, eq_ss, ne_ss, mkT_ap, allD_nil, allD_d, items_tup, items_lst, walk_lst, walk_tup, walk_s, froz_tup, froz_lst, tru_bl, tru_int, tru_no, len_tup, len_lst, len_s, min_ii, max_ii, int_bl, int_in, tuple_tup, tuple_lst, tyN_int, tyN_tup, tyN_str, kit_ib, kit_ii, kit_tt, kit_st, kit_it, enum_nil, enum_cons, for_nil, List.getElem?_cons_zero, List.getElem?_cons_succ, List.set_cons_zero, List.set_cons_succ, List.length_cons, List.length_nil, Option.map_some, Option.bind_some, Bool.not_true, Bool.not_false, decide_true, decide_false, decide_eq_true_eq, if_true, if_false, Bool.false_eq_true, Nat.reduceAdd, Nat.reduceSub, Nat.reduceLeDiff, Nat.reduceMul, Nat.reduceLT, Nat.reduceEqDiff, reduceIte, Bool.true_eq_false, and_true, true_and, and_self, Option.isSome_some, Option.isSome_none, List.append_nil, List.nil_append, List.cons_append, Nat.zero_add, Nat.add_zero, eq_self, Int.cast_ofNat_Int, Int.reduceEq, Int.reduceNe, Int.reduceLT, Int.reduceLE, Int.reduceNeg, Int.reduceAdd, Int.reduceSub, Int.reduceMul, b_common_in, p1, p2, L1.rk, L2.rk, hm, L1.s1 wd pl hp, L2.s1 wd pl hp, eq_bb, bt, bf, btf, bft, um, sm, z2', bits_ok L1 w1, bits_ok L2 w2, q', List.map_cons, List.map_nil]
  · refine ⟨m, true, hr, run1 fun st => ?_, hc, by simp [cg]⟩
    · simp only [bind_ok, bindN_ok, toS_ok, lift_some, sK_ap, sV_ap, s2_ap, sF_ap, aNil_ap, aCons_ap, sTup_ap, sLst_ap, sLstM_ap, sNeg_ap, sIf_ap, sCl_ap, sKget_ap, sKgetI_ap, sKin_ap, sKnin_ap, sIsi_ap, sCh_ap, sFK_ap, sMt_ap, sNot_ap, sAnd_ap, sOr_ap, tB_ap, tT_ap, tNot_ap, tAnd_ap, tOr_ap, oNo_ap, oSo_ap, sSl_ap, sIt_ap, sEnm_ap, sRg1_ap, sRg2_ap, xSeq_ap, xNil_ap, xRet_ap, xRetN_ap, xExp_ap, xSet_ap, xAsg_ap, xPar_ap, xPar3_ap, xIf_ap, xPut_ap, xFor_ap, gN_ap, gsN_ap, gsC_ap, gT_ap, add_ii, sub_ii, lt_ii, le_ii, gt_ii, ge_ii, eq_ii, ne_ii, eq_ss, ne_ss, mkT_ap, allD_nil, allD_d, items_tup, items_lst, walk_lst, walk_tup, walk_s, froz_tup, froz_lst, tru_bl, tru_int, tru_no, len_tup, len_lst, len_s, min_ii, max_ii, int_bl, int_in, tuple_tup, tuple_lst, tyN_int, tyN_tup, tyN_str, kit_ib, kit_ii, kit_tt, kit_st, kit_it, enum_nil, enum_cons, for_nil, List.getElem?_cons_zero, List.getElem?_cons_succ, List.set_cons_zero, List.set_cons_succ, List.length_cons, List.length_nil, Option.map_some, Option.bind_some, Bool.not_true, Bool.not_false, decide_true, decide_false, decide_eq_true_eq, if_true, if_false, Bool.false_eq_true, Nat.reduceAdd, Nat.reduceSub, Nat.reduceLeDiff, Nat.reduceMul, Nat.reduceLT, Nat.reduceEqDiff, reduceIte, Bool.true_eq_false, and_true, true_and, and_self, Option.isSome_some, Option.isSome_none, List.append_nil, List.nil_append, List.cons_append, Nat.zero_add, Nat.add_zero, eq_self, Int.cast_ofNat_Int, Int.reduceEq, Int.reduceNe, Int.reduceLT, Int.reduceLE, Int.reduceNeg, Int.reduceAdd, Int.reduceSub, Int.reduceMul, b_common_in, p1, p2, L1.rk, L2.rk, hm, L1.s1 wd pl hp, L2.s1 wd pl hp, eq_bb, bt, bf, btf, bft, uns_at hr, sgn_at hr]
theorem chr_at {r : Nat} (h : R234 r) (g : Bool) : ∃ ch : Str, (∀ st, oIx (.d (.str (nm r g))) (.d (.int 0)) st = some (.d (.str ch), st)) ∧ decide (ch = "u") = !g := by
  rcases h with rfl | rfl | rfl <;> cases g
  · exact ⟨"u", fun st => by kernel_rfl, by decide⟩
  · exact ⟨"i", fun st => by kernel_rfl, by decide⟩
  · exact ⟨"u", fun st => by kernel_rfl, by decide⟩
  · exact ⟨"l", fun st => by kernel_rfl, by decide⟩
  · exact ⟨"u", fun st => by kernel_rfl, by decide⟩
  · exact ⟨"w", fun st => by kernel_rfl, by decide⟩
theorem u_cat {r : Nat} (h : R234 r) (st : Sto) : oAdd (.d (.str "u")) (.d (.str (nm r true))) st = some (.d (.str (nm r false)), st) := by
  rcases h with rfl | rfl | rfl <;> kernel_rfl
theorem ty_lst {ds : List PD} {st : Sto} : tyo (.d (.list ds)) st = .lst := rfl
theorem same_l : Ty.same .lst .lst = true := rfl
theorem items_at {st : Sto} {i : Nat} {xs : List Va} (h : At st i xs) : itemsV (.r i) st = some xs := by
  unfold itemsV
  dsimp only
  rw [show st.obs[i]? = some (some (.l xs)) from h]
theorem kinds_ok (st : Sto) : F__law_kinds [] st = .ok (.d (.list (labs.map PyData.str))) st := via (by kernel_rfl)
abbrev comBody : SS := (xSeq (xIf (tB (s2 oLt (sMt .lst gIdx (sV 3) (aCons (sV 5) (aNil))) (sK (.int 5)))) (xSet 5 (sIf (tAnd (tT (sF F__law_is_unsigned (aCons (sV 0) (aCons (sV 5) (aNil))))) (tB (s2 oEq (sF F__law_bits (aCons (sV 0) (aCons (sV 5) (aNil)))) (sF F__law_bits (aCons (sV 0) (aCons (sK (.str "int")) (aNil))))))) (sK (.str "uint")) (sK (.str "int")))) (xNil)) (xExp (sMt .lst gApp (sV 4) (aCons (sV 5) (aNil)))))
/-- what both make of a kind -/
abbrev pmz (r : Nat) (z : Str) (sg : Str → Bool) (pl : Str) (v w : Int) : Str := if 2 ≤ r then z else if pg sg pl v w = true then "int" else "uint"
theorem com_step {v w n : Nat} {ds : List PD} (W : Wd a b c d e) (hp : pl = "s" ∨ pl = "u") (L : Lab z r ix sg) (h : (wds a b c d e)[r]? = some (.int (v : Int))) (h2 : (wds a b c d e)[2]? = some (.int (w : Int))) (vw : r < 2 → v ≤ w) (st : Sto) (A : At st n (ds.map .d)) (hz : ds.length < 10) (v1 v2 v6 v7 : Option Va) :
    comBody [some (.d (sch (wds a b c d e) pl)), v1, v2, some (.d (.list (labs.map PyData.str))), some (.r n), some (.d (.str z)), v6, v7] st = .ok (.nx [some (.d (sch (wds a b c d e) pl)), v1, v2, some (.d (.list (labs.map PyData.str))), some (.r n), some (.d (.str (pmz r z sg pl v w))), v6, v7]) (st.put n (.l ((ds ++ [PyData.str (pmz r z sg pl v w)]).map .d))) := by
  have ap := fun x => appD_at (d := .str x) A (Nat.lt_of_lt_of_le hz (by decide))
  have sm := same_lst A
  have lb := L.lb a b c d e pl st
  rw [List.getD_eq_getElem?_getD, h] at lb
  have lb : F__law_bits [.d (sch (wds a b c d e) pl), .d (.str z)] st = .ok (.d (.int (v : Int))) st := lb
  have li := (labN (.inl rfl) true).lb a b c d e pl st
  rw [List.getD_eq_getElem?_getD, h2] at li
  have li : F__law_bits [.d (sch (wds a b c d e) pl), .d (.str "int")] st = .ok (.d (.int (w : Int))) st := li
  by_cases q : 2 ≤ r
  · have q5 : ¬ (ix : Int) < 5 := by have := L.hx5; omega
    have e : pmz r z sg pl v w = z := if_pos q
    rw [e]
    simp only [bind_ok, bindN_ok, toS_ok, lift_some, sK_ap, sV_ap, s2_ap, sF_ap, aNil_ap, aCons_ap, sTup_ap, sLst_ap, sLstM_ap, sNeg_ap, sIf_ap, sCl_ap, sKget_ap, sKgetI_ap, sKin_ap, sKnin_ap, sIsi_ap, sCh_ap, sFK_ap, sMt_ap, sNot_ap, sAnd_ap, sOr_ap, tB_ap, tT_ap, tNot_ap, tAnd_ap, tOr_ap, oNo_ap, oSo_ap, sSl_ap, sIt_ap, sEnm_ap, sRg1_ap, sRg2_ap, xSeq_ap, xNil_ap, xRet_ap, xRetN_ap, xExp_ap, xSet_ap, xAsg_ap, xPar_ap, xPar3_ap, xIf_ap, xPut_ap, xFor_ap, gN_ap, gsN_ap, gsC_ap, gT_ap, add_ii, sub_ii, lt_ii, le_ii, gt_ii, ge_ii, eq_ii, ne_ii, eq_ss, ne_ss, mkT_ap, allD_nil, allD_d, items_tup, items_lst, walk_lst, walk_tup, walk_s, froz_tup, froz_lst, tru_bl, tru_int, tru_no, len_tup, len_lst, len_s, min_ii, max_ii, int_bl, int_in, tuple_tup, tuple_lst, tyN_int, tyN_tup, tyN_str, kit_ib, kit_ii, kit_tt, kit_st, kit_it, enum_nil, enum_cons, for_nil, List.getElem?_cons_zero, List.getElem?_cons_succ, List.set_cons_zero, List.set_cons_succ, List.length_cons, List.length_nil, Option.map_some, Option.bind_some, Bool.not_true, Bool.not_false, decide_true, decide_false, decide_eq_true_eq, if_true, if_false, Bool.false_eq_true, Nat.reduceAdd, Nat.reduceSub, Nat.reduceLeDiff, Nat.reduceMul, Nat.reduceLT, Nat.reduceEqDiff, reduceIte, Bool.true_eq_false, and_true, true_and, and_self, Option.isSome_some, Option.isSome_none, List.append_nil, List.nil_append, List.cons_append, Nat.zero_add, Nat.add_zero, eq_self, Int.cast_ofNat_Int, Int.reduceEq, Int.reduceNe, Int.reduceLT, Int.reduceLE, Int.reduceNeg, Int.reduceAdd, Int.reduceSub, Int.reduceMul, ty_lst, same_l, L.hx, q5, sm, ap]
  · have q5 : (ix : Int) < 5 := by have := L.hx5; omega
    have vw := vw (by omega)
    cases hs : sg pl
    · by_cases k : (v : Int) = (w : Int)
      · have e : pmz r z sg pl v w = "uint" := by
          show (if 2 ≤ r then z else if (sg pl || decide ((v : Int) < (w : Int))) = true then "int" else "uint") = _
          rw [if_neg q, hs, Bool.false_or, decide_eq_false (by omega)]
          rfl
        rw [e]
        simp only [bind_ok, bindN_ok, toS_ok, lift_some, sK_ap, sV_ap, s2_ap, sF_ap, aNil_ap, aCons_ap, sTup_ap, sLst_ap, sLstM_ap, sNeg_ap, sIf_ap, sCl_ap, sKget_ap, sKgetI_ap, sKin_ap, sKnin_ap, sIsi_ap, sCh_ap, sFK_ap, sMt_ap, sNot_ap, sAnd_ap, sOr_ap, tB_ap, tT_ap, tNot_ap, tAnd_ap, tOr_ap, oNo_ap, oSo_ap, sSl_ap, sIt_ap, sEnm_ap, sRg1_ap, sRg2_ap, xSeq_ap, xNil_ap, xRet_ap, xRetN_ap, xExp_ap, xSet_ap, xAsg_ap, xPar_ap, xPar3_ap, xIf_ap, xPut_ap, xFor_ap, gN_ap, gsN_ap, gsC_ap, gT_ap, add_ii, sub_ii, lt_ii, le_ii, gt_ii, ge_ii, eq_ii, ne_ii, eq_ss, ne_ss, mkT_ap, allD_nil, allD_d, items_tup, items_lst, walk_lst, walk_tup, walk_s, froz_tup, froz_lst, tru_bl, tru_int, tru_no, len_tup, len_lst, len_s, min_ii, max_ii, int_bl, int_in, tuple_tup, tuple_lst, tyN_int, tyN_tup, tyN_str, kit_ib, kit_ii, kit_tt, kit_st, kit_it, enum_nil, enum_cons, for_nil, List.getElem?_cons_zero, List.getElem?_cons_succ, List.set_cons_zero, List.set_cons_succ, List.length_cons, List.length_nil, Option.map_some, Option.bind_some, Bool.not_true, Bool.not_false, decide_true, decide_false, decide_eq_true_eq, if_true, if_false, Bool.false_eq_true, Nat.reduceAdd, Nat.reduceSub, Nat.reduceLeDiff, Nat.reduceMul, Nat.reduceLT, Nat.reduceEqDiff, reduceIte, Bool.true_eq_false, and_true, true_and, and_self, Option.isSome_some, Option.isSome_none, List.append_nil, List.nil_append, List.cons_append, Nat.zero_add, Nat.add_zero, eq_self, Int.cast_ofNat_Int, Int.reduceEq, Int.reduceNe, Int.reduceLT, Int.reduceLE, Int.reduceNeg, Int.reduceAdd, Int.reduceSub, Int.reduceMul, ty_lst, same_l, L.hx, q5, sm, ap, L.lu _ pl hp, hs, lb, li, k]
      · have e : pmz r z sg pl v w = "int" := by
          show (if 2 ≤ r then z else if (sg pl || decide ((v : Int) < (w : Int))) = true then "int" else "uint") = _
          rw [if_neg q, hs, Bool.false_or, decide_eq_true (by omega)]
          rfl
        rw [e]
        simp only [bind_ok, bindN_ok, toS_ok, lift_some, sK_ap, sV_ap, s2_ap, sF_ap, aNil_ap, aCons_ap, sTup_ap, sLst_ap, sLstM_ap, sNeg_ap, sIf_ap, sCl_ap, sKget_ap, sKgetI_ap, sKin_ap, sKnin_ap, sIsi_ap, sCh_ap, sFK_ap, sMt_ap, sNot_ap, sAnd_ap, sOr_ap, tB_ap, tT_ap, tNot_ap, tAnd_ap, tOr_ap, oNo_ap, oSo_ap, sSl_ap, sIt_ap, sEnm_ap, sRg1_ap, sRg2_ap, xSeq_ap, xNil_ap, xRet_ap, xRetN_ap, xExp_ap, xSet_ap, xAsg_ap, xPar_ap, xPar3_ap, xIf_ap, xPut_ap, xFor_ap, gN_ap, gsN_ap, gsC_ap, gT_ap, add_ii, sub_ii, lt_ii, le_ii, gt_ii, ge_ii, eq_ii, ne_ii, eq_ss, ne_ss, mkT_ap, allD_nil, allD_d, items_tup, items_lst, walk_lst, walk_tup, walk_s, froz_tup, froz_lst, tru_bl, tru_int, tru_no, len_tup, len_lst, len_s, min_ii, max_ii, int_bl, int_in, tuple_tup, tuple_lst, tyN_int, tyN_tup, tyN_str, kit_ib, kit_ii, kit_tt, kit_st, kit_it, enum_nil, enum_cons, for_nil, List.getElem?_cons_zero, List.getElem?_cons_succ, List.set_cons_zero, List.set_cons_succ, List.length_cons, List.length_nil, Option.map_some, Option.bind_some, Bool.not_true, Bool.not_false, decide_true, decide_false, decide_eq_true_eq, if_true, if_false, Bool.false_eq_true, Nat.reduceAdd, Nat.reduceSub, Nat.reduceLeDiff, Nat.reduceMul, Nat.reduceLT, Nat.reduceEqDiff, reduceIte, Bool.true_eq_false, and_true, true_and, and_self, Option.isSome_some, Option.isSome_none, List.append_nil, List.nil_append, List.cons_append, Nat.zero_add, Nat.add_zero, eq_self, Int.cast_ofNat_Int, Int.reduceEq, Int.reduceNe, Int.reduceLT, Int.reduceLE, Int.reduceNeg, Int.reduceAdd, Int.reduceSub, Int.reduceMul, ty_lst, same_l, L.hx, q5, sm, ap, L.lu _ pl hp, hs, lb, li, k]
    · have e : pmz r z sg pl v w = "int" := by
        show (if 2 ≤ r then z else if (sg pl || decide ((v : Int) < (w : Int))) = true then "int" else "uint") = _
        rw [if_neg q, hs, Bool.true_or]
        rfl
      rw [e]
      simp only [bind_ok, bindN_ok, toS_ok, lift_some, sK_ap, sV_ap, s2_ap, sF_ap, aNil_ap, aCons_ap, sTup_ap, sLst_ap, sLstM_ap, sNeg_ap, sIf_ap, sCl_ap, sKget_ap, sKgetI_ap, sKin_ap, sKnin_ap, sIsi_ap, sCh_ap, sFK_ap, sMt_ap, sNot_ap, sAnd_ap, sOr_ap, tB_ap, tT_ap, tNot_ap, tAnd_ap, tOr_ap, oNo_ap, oSo_ap, sSl_ap, sIt_ap, sEnm_ap, sRg1_ap, sRg2_ap, xSeq_ap, xNil_ap, xRet_ap, xRetN_ap, xExp_ap, xSet_ap, xAsg_ap, xPar_ap, xPar3_ap, xIf_ap, xPut_ap, xFor_ap, gN_ap, gsN_ap, gsC_ap, gT_ap, add_ii, sub_ii, lt_ii, le_ii, gt_ii, ge_ii, eq_ii, ne_ii, eq_ss, ne_ss, mkT_ap, allD_nil, allD_d, items_tup, items_lst, walk_lst, walk_tup, walk_s, froz_tup, froz_lst, tru_bl, tru_int, tru_no, len_tup, len_lst, len_s, min_ii, max_ii, int_bl, int_in, tuple_tup, tuple_lst, tyN_int, tyN_tup, tyN_str, kit_ib, kit_ii, kit_tt, kit_st, kit_it, enum_nil, enum_cons, for_nil, List.getElem?_cons_zero, List.getElem?_cons_succ, List.set_cons_zero, List.set_cons_succ, List.length_cons, List.length_nil, Option.map_some, Option.bind_some, Bool.not_true, Bool.not_false, decide_true, decide_false, decide_eq_true_eq, if_true, if_false, Bool.false_eq_true, Nat.reduceAdd, Nat.reduceSub, Nat.reduceLeDiff, Nat.reduceMul, Nat.reduceLT, Nat.reduceEqDiff, reduceIte, Bool.true_eq_false, and_true, true_and, and_self, Option.isSome_some, Option.isSome_none, List.append_nil, List.nil_append, List.cons_append, Nat.zero_add, Nat.add_zero, eq_self, Int.cast_ofNat_Int, Int.reduceEq, Int.reduceNe, Int.reduceLT, Int.reduceLE, Int.reduceNeg, Int.reduceAdd, Int.reduceSub, Int.reduceMul, ty_lst, same_l, L.hx, q5, sm, ap, L.lu _ pl hp, hs]
end
end K44

set_option maxHeartbeats 4000000
namespace K44
open PySem PySem.Spec PyProof.Rows L2 Vi
theorem push_put (t : Sto) (o o' : Ob) : (t.push o).put t.n o' = t.push o' := by
  show Sto.mk ((t.obs ++ [some o]).set t.obs.length (some o')) t.base = ⟨t.obs ++ [some o'], t.base⟩
  rw [List.set_append_right _ _ (Nat.le_refl _), Nat.sub_self]
  rfl
theorem push_take (st : Sto) (o : Ob) : (⟨((⟨st.obs, st.n⟩ : Sto).push o).obs.take st.n, st.base⟩ : Sto) = st := by
  show Sto.mk ((st.obs ++ [some o]).take st.obs.length) st.base = st
  rw [List.take_left']
  rfl
section
variable {a b c d e : Int} {pl : Str}
theorem lcom_ok {z1 z2 : Str} {rz1 rz2 ix1 ix2 : Nat} {sg1 sg2 : Str → Bool} {w u1 u2 r1 r2 v1 v2 : Nat} {g1 g2 : Bool} (W : Wd a b c d e) (hp : pl = "s" ∨ pl = "u") (L1 : Lab z1 rz1 ix1 sg1) (L2 : Lab z2 rz2 ix2 sg2) (hu1 : (wds a b c d e)[rz1]? = some (.int (u1 : Int))) (hu2 : (wds a b c d e)[rz2]? = some (.int (u2 : Int)))
    (hw : (wds a b c d e)[2]? = some (.int (w : Int))) (vw1 : rz1 < 2 → u1 ≤ w) (vw2 : rz2 < 2 → u2 ≤ w) (h1 : R234 r1) (h2 : R234 r2) (e1 : pmz rz1 z1 sg1 pl u1 w = nm r1 g1) (e2 : pmz rz2 z2 sg2 pl u2 w = nm r2 g2) (w1 : (wds a b c d e)[r1]? = some (.int (v1 : Int))) (w2 : (wds a b c d e)[r2]? = some (.int (v2 : Int)))
    {m : Nat} (hm : (m = r1 ∧ r2 ≤ r1) ∨ (m = r2 ∧ r1 < r2)) (st : Sto) : F__law_common [.d (sch (wds a b c d e) pl), .d (.str z1), .d (.str z2)] st = .ok (.d (.str (nm m (cg r1 g1 v1 r2 g2 v2)))) st := by
  have key : ∃ o, b__law_common [some (.d (sch (wds a b c d e) pl)), some (.d (.str z1)), some (.d (.str z2)), none, none, none, none, none] ⟨st.obs, st.n⟩ = .ok (.rt (.d (.str (nm m (cg r1 g1 v1 r2 g2 v2))))) ((⟨st.obs, st.n⟩ : Sto).push o) := by
    generalize (⟨st.obs, st.n⟩ : Sto) = t
    refine ⟨.l ([.str (nm r1 g1), .str (nm r2 g2)].map .d), ?_⟩
    have z0 : 0 ≤ sizeLine := by decide
    have z2' : 2 ≤ sizeLine := by decide
    have A0 : At (t.push (.l (([] : List PD).map .d))) t.n (([] : List PD).map .d) := At.push
    have s1 := com_step W hp L1 hu1 hw vw1 (t.push (.l (([] : List PD).map .d))) A0 (by decide) (some (.d (.str z1))) (some (.d (.str z2))) none none
    rw [push_put, e1] at s1
    have A1 : At (t.push (.l (([PyData.str (nm r1 g1)] : List PD).map .d))) t.n (([PyData.str (nm r1 g1)] : List PD).map .d) := At.push
    have s2 := com_step W hp L2 hu2 hw vw2 (t.push (.l (([PyData.str (nm r1 g1)] : List PD).map .d))) A1 (by show 1 < 10; decide) (some (.d (.str z1))) (some (.d (.str z2))) none none
    rw [push_put, e2] at s2
    have A2 : At (t.push (.l (([PyData.str (nm r1 g1), PyData.str (nm r2 g2)] : List PD).map .d))) t.n (([PyData.str (nm r1 g1), PyData.str (nm r2 g2)] : List PD).map .d) := At.push
    refine xSeq_nx (e := [some (.d (sch (wds a b c d e) pl)), some (.d (.str z1)), some (.d (.str z2)), some (.d (.list (labs.map PyData.str))), none, none, none, none]) (s := t) (by simp only [bind_ok, bindN_ok, toS_ok, lift_some, sK_ap, sV_ap, s2_ap, sF_ap, aNil_ap, aCons_ap, sTup_ap, sLst_ap, sLstM_ap, sNeg_ap, sIf_ap, sCl_ap, sKget_ap, sKgetI_ap, sKin_ap, sKnin_ap, sIsi_ap, sCh_ap, sFK_ap, sMt_ap, sNot_ap, sAnd_ap, sOr_ap, tB_ap, tT_ap, tNot_ap, tAnd_ap, tOr_ap, oNo_ap, oSo_ap, sSl_ap, sIt_ap, sEnm_ap, sRg1_ap, sRg2_ap, xSeq_ap, xNil_ap, xRet_ap, xRetN_ap, xExp_ap, xSet_ap, xAsg_ap, xPar_ap, xPar3_ap, xIf_ap, xPut_ap, xFor_ap, gN_ap, gsN_ap, gsC_ap, gT_ap, add_ii, sub_ii, lt_ii, le_ii, gt_ii, ge_ii, eq_ii, ne_ii, eq_ss, ne_ss, mkT_ap, allD_nil, allD_d, items_tup, items_lst, walk_lst, walk_tup, walk_s, froz_tup, froz_lst, tru_bl, tru_int, tru_no, len_tup, len_lst, len_s, min_ii, max_ii, int_bl, int_in, tuple_tup, tuple_lst, tyN_int, tyN_tup, tyN_str, kit_ib, kit_ii, kit_tt, kit_st, kit_it, enum_nil, enum_cons, for_nil, List.getElem?_cons_zero, List.getElem?_cons_succ, List.set_cons_zero, List.set_cons_succ, List.length_cons, List.length_nil, Option.map_some, Option.bind_some, Bool.not_true, Bool.not_false, decide_true, decide_false, decide_eq_true_eq, if_true, if_false, Bool.false_eq_true, Nat.reduceAdd, Nat.reduceSub, Nat.reduceLeDiff, Nat.reduceMul, Nat.reduceLT, Nat.reduceEqDiff, reduceIte, Bool.true_eq_false, and_true, true_and, and_self, Option.isSome_some, Option.isSome_none, List.append_nil, List.nil_append, List.cons_append, Nat.zero_add, Nat.add_zero, eq_self, Int.cast_ofNat_Int, Int.reduceEq, Int.reduceNe, Int.reduceLT, Int.reduceLE, Int.reduceNeg, Int.reduceAdd, Int.reduceSub, Int.reduceMul, kinds_ok]) ?_
    refine xSeq_nx (e := [some (.d (sch (wds a b c d e) pl)), some (.d (.str z1)), some (.d (.str z2)), some (.d (.list (labs.map PyData.str))), some (.r t.n), none, none, none]) (s := t.push (.l (([] : List PD).map .d))) (by simp only [bind_ok, bindN_ok, toS_ok, lift_some, sK_ap, sV_ap, s2_ap, sF_ap, aNil_ap, aCons_ap, sTup_ap, sLst_ap, sLstM_ap, sNeg_ap, sIf_ap, sCl_ap, sKget_ap, sKgetI_ap, sKin_ap, sKnin_ap, sIsi_ap, sCh_ap, sFK_ap, sMt_ap, sNot_ap, sAnd_ap, sOr_ap, tB_ap, tT_ap, tNot_ap, tAnd_ap, tOr_ap, oNo_ap, oSo_ap, sSl_ap, sIt_ap, sEnm_ap, sRg1_ap, sRg2_ap, xSeq_ap, xNil_ap, xRet_ap, xRetN_ap, xExp_ap, xSet_ap, xAsg_ap, xPar_ap, xPar3_ap, xIf_ap, xPut_ap, xFor_ap, gN_ap, gsN_ap, gsC_ap, gT_ap, add_ii, sub_ii, lt_ii, le_ii, gt_ii, ge_ii, eq_ii, ne_ii, eq_ss, ne_ss, mkT_ap, allD_nil, allD_d, items_tup, items_lst, walk_lst, walk_tup, walk_s, froz_tup, froz_lst, tru_bl, tru_int, tru_no, len_tup, len_lst, len_s, min_ii, max_ii, int_bl, int_in, tuple_tup, tuple_lst, tyN_int, tyN_tup, tyN_str, kit_ib, kit_ii, kit_tt, kit_st, kit_it, enum_nil, enum_cons, for_nil, List.getElem?_cons_zero, List.getElem?_cons_succ, List.set_cons_zero, List.set_cons_succ, List.length_cons, List.length_nil, Option.map_some, Option.bind_some, Bool.not_true, Bool.not_false, decide_true, decide_false, decide_eq_true_eq, if_true, if_false, Bool.false_eq_true, Nat.reduceAdd, Nat.reduceSub, Nat.reduceLeDiff, Nat.reduceMul, Nat.reduceLT, Nat.reduceEqDiff, reduceIte, Bool.true_eq_false, and_true, true_and, and_self, Option.isSome_some, Option.isSome_none, List.append_nil, List.nil_append, List.cons_append, Nat.zero_add, Nat.add_zero, eq_self, Int.cast_ofNat_Int, Int.reduceEq, Int.reduceNe, Int.reduceLT, Int.reduceLE, Int.reduceNeg, Int.reduceAdd, Int.reduceSub, Int.reduceMul, z0]; rfl) ?_
    have run : forL (gN 5) comBody [.d (.str z1), .d (.str z2)] [some (.d (sch (wds a b c d e) pl)), some (.d (.str z1)), some (.d (.str z2)), some (.d (.list (labs.map PyData.str))), some (.r t.n), none, none, none] (t.push (.l (([] : List PD).map .d)))
        = .ok (.nx [some (.d (sch (wds a b c d e) pl)), some (.d (.str z1)), some (.d (.str z2)), some (.d (.list (labs.map PyData.str))), some (.r t.n), some (.d (.str (nm r2 g2))), none, none]) (t.push (.l (([PyData.str (nm r1 g1), PyData.str (nm r2 g2)] : List PD).map .d))) := by
      exact (forL_nx rfl s1).trans ((forL_nx rfl s2).trans rfl)
    refine xSeq_nx (e := _) (s := (t.push (.l (([PyData.str (nm r1 g1), PyData.str (nm r2 g2)] : List PD).map .d)))) (by simp only [bind_ok, bindN_ok, toS_ok, lift_some, sK_ap, sV_ap, s2_ap, sF_ap, aNil_ap, aCons_ap, sTup_ap, sLst_ap, sLstM_ap, sNeg_ap, sIf_ap, sCl_ap, sKget_ap, sKgetI_ap, sKin_ap, sKnin_ap, sIsi_ap, sCh_ap, sFK_ap, sMt_ap, sNot_ap, sAnd_ap, sOr_ap, tB_ap, tT_ap, tNot_ap, tAnd_ap, tOr_ap, oNo_ap, oSo_ap, sSl_ap, sIt_ap, sEnm_ap, sRg1_ap, sRg2_ap, xSeq_ap, xNil_ap, xRet_ap, xRetN_ap, xExp_ap, xSet_ap, xAsg_ap, xPar_ap, xPar3_ap, xIf_ap, xPut_ap, xFor_ap, gN_ap, gsN_ap, gsC_ap, gT_ap, add_ii, sub_ii, lt_ii, le_ii, gt_ii, ge_ii, eq_ii, ne_ii, eq_ss, ne_ss, mkT_ap, allD_nil, allD_d, items_tup, items_lst, walk_lst, walk_tup, walk_s, froz_tup, froz_lst, tru_bl, tru_int, tru_no, len_tup, len_lst, len_s, min_ii, max_ii, int_bl, int_in, tuple_tup, tuple_lst, tyN_int, tyN_tup, tyN_str, kit_ib, kit_ii, kit_tt, kit_st, kit_it, enum_nil, enum_cons, for_nil, List.getElem?_cons_zero, List.getElem?_cons_succ, List.set_cons_zero, List.set_cons_succ, List.length_cons, List.length_nil, Option.map_some, Option.bind_some, Bool.not_true, Bool.not_false, decide_true, decide_false, decide_eq_true_eq, if_true, if_false, Bool.false_eq_true, Nat.reduceAdd, Nat.reduceSub, Nat.reduceLeDiff, Nat.reduceMul, Nat.reduceLT, Nat.reduceEqDiff, reduceIte, Bool.true_eq_false, and_true, true_and, and_self, Option.isSome_some, Option.isSome_none, List.append_nil, List.nil_append, List.cons_append, Nat.zero_add, Nat.add_zero, eq_self, Int.cast_ofNat_Int, Int.reduceEq, Int.reduceNe, Int.reduceLT, Int.reduceLE, Int.reduceNeg, Int.reduceAdd, Int.reduceSub, Int.reduceMul, z2', List.map_cons, List.map_nil]; exact run) ?_
    have it := items_at A2
    obtain ⟨c1, hc1, d1⟩ := chr_at h1 g1
    obtain ⟨c2, hc2, d2⟩ := chr_at h2 g2
    have x1 := (labN h1 g1).hx
    have x2 := (labN h2 g2).hx
    have b1 : ∀ st, F__law_bits [.d (sch (wds a b c d e) pl), .d (.str (nm r1 g1))] st = .ok (.d (.int (v1 : Int))) st := fun st => by
      rw [(labN h1 g1).lb, List.getD_eq_getElem?_getD, w1]
      rfl
    have b2 : ∀ st, F__law_bits [.d (sch (wds a b c d e) pl), .d (.str (nm r2 g2))] st = .ok (.d (.int (v2 : Int))) st := fun st => by
      rw [(labN h2 g2).lb, List.getD_eq_getElem?_getD, w2]
      rfl
    generalize (t.push (.l (([PyData.str (nm r1 g1), PyData.str (nm r2 g2)] : List PD).map .d))) = s at *
    have bt : (true == true) = true := rfl
    have bf : (false == false) = true := rfl
    have btf : (true == false) = false := rfl
    have bft : (false == true) = false := rfl
    refine xSeq_nx (e := [some (.d (sch (wds a b c d e) pl)), some (.d (.str (nm r1 g1))), some (.d (.str (nm r2 g2))), some (.d (.list (labs.map PyData.str))), some (.r t.n), some (.d (.str (nm r2 g2))), none, none]) (s := s) (by simp only [bind_ok, bindN_ok, toS_ok, lift_some, sK_ap, sV_ap, s2_ap, sF_ap, aNil_ap, aCons_ap, sTup_ap, sLst_ap, sLstM_ap, sNeg_ap, sIf_ap, sCl_ap, sKget_ap, sKgetI_ap, sKin_ap, sKnin_ap, sIsi_ap, sCh_ap, sFK_ap, sMt_ap, sNot_ap, sAnd_ap, sOr_ap, tB_ap, tT_ap, tNot_ap, tAnd_ap, tOr_ap, oNo_ap, oSo_ap, sSl_ap, sIt_ap, sEnm_ap, sRg1_ap, sRg2_ap, xSeq_ap, xNil_ap, xRet_ap, xRetN_ap, xExp_ap, xSet_ap, xAsg_ap, xPar_ap, xPar3_ap, xIf_ap, xPut_ap, xFor_ap, gN_ap, gsN_ap, gsC_ap, gT_ap, add_ii, sub_ii, lt_ii, le_ii, gt_ii, ge_ii, eq_ii, ne_ii, eq_ss, ne_ss, mkT_ap, allD_nil, allD_d, items_tup, items_lst, walk_lst, walk_tup, walk_s, froz_tup, froz_lst, tru_bl, tru_int, tru_no, len_tup, len_lst, len_s, min_ii, max_ii, int_bl, int_in, tuple_tup, tuple_lst, tyN_int, tyN_tup, tyN_str, kit_ib, kit_ii, kit_tt, kit_st, kit_it, enum_nil, enum_cons, for_nil, List.getElem?_cons_zero, List.getElem?_cons_succ, List.set_cons_zero, List.set_cons_succ, List.length_cons, List.length_nil, Option.map_some, Option.bind_some, Bool.not_true, Bool.not_false, decide_true, decide_false, decide_eq_true_eq, if_true, if_false, Bool.false_eq_true, Nat.reduceAdd, Nat.reduceSub, Nat.reduceLeDiff, Nat.reduceMul, Nat.reduceLT, Nat.reduceEqDiff, reduceIte, Bool.true_eq_false, and_true, true_and, and_self, Option.isSome_some, Option.isSome_none, List.append_nil, List.nil_append, List.cons_append, Nat.zero_add, Nat.add_zero, eq_self, Int.cast_ofNat_Int, Int.reduceEq, Int.reduceNe, Int.reduceLT, Int.reduceLE, Int.reduceNeg, Int.reduceAdd, Int.reduceSub, Int.reduceMul, it, List.map_cons, List.map_nil]) ?_
    cases g1 <;> cases g2
    · by_cases q : (ixn r2 false : Int) ≤ (ixn r1 false : Int)
      · have em : m = r1 := by
          have : ixn r2 false = 2 * r2 + 2 := rfl
          have : ixn r1 false = 2 * r1 + 2 := rfl
          omega
        rw [em]
        simp only [bind_ok, bindN_ok, toS_ok, lift_some, sK_ap, sV_ap, s2_ap, sF_ap, aNil_ap, aCons_ap, sTup_ap, sLst_ap, sLstM_ap, sNeg_ap, sIf_ap, sCl_ap, sKget_ap, sKgetI_ap, sKin_ap, sKnin_ap, sIsi_ap, sCh_ap, sFK_ap, sMt_ap, sNot_ap, sAnd_ap, sOr_ap, tB_ap, tT_ap, tNot_ap, tAnd_ap, tOr_ap, oNo_ap, oSo_ap, sSl_ap, sIt_ap, sEnm_ap, sRg1_ap, sRg2_ap, xSeq_ap, xNil_ap, xRet_ap, xRetN_ap, xExp_ap, xSet_ap, xAsg_ap, xPar_ap, xPar3_ap, xIf_ap, xPut_ap, xFor_ap, gN_ap, gsN_ap, gsC_ap, gT_ap, add_ii, sub_ii, lt_ii, le_ii, gt_ii, ge_ii, eq_ii, ne_ii, eq_ss, ne_ss, mkT_ap, allD_nil, allD_d, items_tup, items_lst, walk_lst, walk_tup, walk_s, froz_tup, froz_lst, tru_bl, tru_int, tru_no, len_tup, len_lst, len_s, min_ii, max_ii, int_bl, int_in, tuple_tup, tuple_lst, tyN_int, tyN_tup, tyN_str, kit_ib, kit_ii, kit_tt, kit_st, kit_it, enum_nil, enum_cons, for_nil, List.getElem?_cons_zero, List.getElem?_cons_succ, List.set_cons_zero, List.set_cons_succ, List.length_cons, List.length_nil, Option.map_some, Option.bind_some, Bool.not_true, Bool.not_false, decide_true, decide_false, decide_eq_true_eq, if_true, if_false, Bool.false_eq_true, Nat.reduceAdd, Nat.reduceSub, Nat.reduceLeDiff, Nat.reduceMul, Nat.reduceLT, Nat.reduceEqDiff, reduceIte, Bool.true_eq_false, and_true, true_and, and_self, Option.isSome_some, Option.isSome_none, List.append_nil, List.nil_append, List.cons_append, Nat.zero_add, Nat.add_zero, eq_self, Int.cast_ofNat_Int, Int.reduceEq, Int.reduceNe, Int.reduceLT, Int.reduceLE, Int.reduceNeg, Int.reduceAdd, Int.reduceSub, Int.reduceMul, hc1, hc2, d1, d2, eq_bb, bt, bf, btf, bft, ty_lst, same_l, x1, x2, q]
        rfl
      · have em : m = r2 := by
          have : ixn r2 false = 2 * r2 + 2 := rfl
          have : ixn r1 false = 2 * r1 + 2 := rfl
          omega
        rw [em]
        simp only [bind_ok, bindN_ok, toS_ok, lift_some, sK_ap, sV_ap, s2_ap, sF_ap, aNil_ap, aCons_ap, sTup_ap, sLst_ap, sLstM_ap, sNeg_ap, sIf_ap, sCl_ap, sKget_ap, sKgetI_ap, sKin_ap, sKnin_ap, sIsi_ap, sCh_ap, sFK_ap, sMt_ap, sNot_ap, sAnd_ap, sOr_ap, tB_ap, tT_ap, tNot_ap, tAnd_ap, tOr_ap, oNo_ap, oSo_ap, sSl_ap, sIt_ap, sEnm_ap, sRg1_ap, sRg2_ap, xSeq_ap, xNil_ap, xRet_ap, xRetN_ap, xExp_ap, xSet_ap, xAsg_ap, xPar_ap, xPar3_ap, xIf_ap, xPut_ap, xFor_ap, gN_ap, gsN_ap, gsC_ap, gT_ap, add_ii, sub_ii, lt_ii, le_ii, gt_ii, ge_ii, eq_ii, ne_ii, eq_ss, ne_ss, mkT_ap, allD_nil, allD_d, items_tup, items_lst, walk_lst, walk_tup, walk_s, froz_tup, froz_lst, tru_bl, tru_int, tru_no, len_tup, len_lst, len_s, min_ii, max_ii, int_bl, int_in, tuple_tup, tuple_lst, tyN_int, tyN_tup, tyN_str, kit_ib, kit_ii, kit_tt, kit_st, kit_it, enum_nil, enum_cons, for_nil, List.getElem?_cons_zero, List.getElem?_cons_succ, List.set_cons_zero, List.set_cons_succ, List.length_cons, List.length_nil, Option.map_some, Option.bind_some, Bool.not_true, Bool.not_false, decide_true, decide_false, decide_eq_true_eq, if_true, if_false, Bool.false_eq_true, Nat.reduceAdd, Nat.reduceSub, Nat.reduceLeDiff, Nat.reduceMul, Nat.reduceLT, Nat.reduceEqDiff, reduceIte, Bool.true_eq_false, and_true, true_and, and_self, Option.isSome_some, Option.isSome_none, List.append_nil, List.nil_append, List.cons_append, Nat.zero_add, Nat.add_zero, eq_self, Int.cast_ofNat_Int, Int.reduceEq, Int.reduceNe, Int.reduceLT, Int.reduceLE, Int.reduceNeg, Int.reduceAdd, Int.reduceSub, Int.reduceMul, hc1, hc2, d1, d2, eq_bb, bt, bf, btf, bft, ty_lst, same_l, x1, x2, q]
        rfl
    · -- plus = one, minus = two
      have i1 : ixn r1 false = 2 * r1 + 2 := rfl
      have i2 : ixn r2 true = 2 * r2 + 1 := rfl
      by_cases q : (ixn r2 true : Int) < (ixn r1 false : Int)
      · have em : m = r1 := by omega
        have eg : cg r1 false v1 r2 true v2 = false := by
          show (decide (r1 < r2) && decide ((v1 : Int) < (v2 : Int))) = false
          rw [decide_eq_false (by omega)]
          rfl
        rw [em, eg]
        simp only [bind_ok, bindN_ok, toS_ok, lift_some, sK_ap, sV_ap, s2_ap, sF_ap, aNil_ap, aCons_ap, sTup_ap, sLst_ap, sLstM_ap, sNeg_ap, sIf_ap, sCl_ap, sKget_ap, sKgetI_ap, sKin_ap, sKnin_ap, sIsi_ap, sCh_ap, sFK_ap, sMt_ap, sNot_ap, sAnd_ap, sOr_ap, tB_ap, tT_ap, tNot_ap, tAnd_ap, tOr_ap, oNo_ap, oSo_ap, sSl_ap, sIt_ap, sEnm_ap, sRg1_ap, sRg2_ap, xSeq_ap, xNil_ap, xRet_ap, xRetN_ap, xExp_ap, xSet_ap, xAsg_ap, xPar_ap, xPar3_ap, xIf_ap, xPut_ap, xFor_ap, gN_ap, gsN_ap, gsC_ap, gT_ap, add_ii, sub_ii, lt_ii, le_ii, gt_ii, ge_ii, eq_ii, ne_ii, eq_ss, ne_ss, mkT_ap, allD_nil, allD_d, items_tup, items_lst, walk_lst, walk_tup, walk_s, froz_tup, froz_lst, tru_bl, tru_int, tru_no, len_tup, len_lst, len_s, min_ii, max_ii, int_bl, int_in, tuple_tup, tuple_lst, tyN_int, tyN_tup, tyN_str, kit_ib, kit_ii, kit_tt, kit_st, kit_it, enum_nil, enum_cons, for_nil, List.getElem?_cons_zero, List.getElem?_cons_succ, List.set_cons_zero, List.set_cons_succ, List.length_cons, List.length_nil, Option.map_some, Option.bind_some, Bool.not_true, Bool.not_false, decide_true, decide_false, decide_eq_true_eq, if_true, if_false, Bool.false_eq_true, Nat.reduceAdd, Nat.reduceSub, Nat.reduceLeDiff, Nat.reduceMul, Nat.reduceLT, Nat.reduceEqDiff, reduceIte, Bool.true_eq_false, and_true, true_and, and_self, Option.isSome_some, Option.isSome_none, List.append_nil, List.nil_append, List.cons_append, Nat.zero_add, Nat.add_zero, eq_self, Int.cast_ofNat_Int, Int.reduceEq, Int.reduceNe, Int.reduceLT, Int.reduceLE, Int.reduceNeg, Int.reduceAdd, Int.reduceSub, Int.reduceMul, hc1, hc2, d1, d2, eq_bb, bt, bf, btf, bft, ty_lst, same_l, x1, x2, q, z2', List.map_cons, List.map_nil]
      · have em : m = r2 := by omega
        by_cases k : (v1 : Int) < (v2 : Int)
        · have eg : cg r1 false v1 r2 true v2 = true := by
            show (decide (r1 < r2) && decide ((v1 : Int) < (v2 : Int))) = true
            rw [decide_eq_true (by omega), decide_eq_true k]
            rfl
          rw [em, eg]
          simp only [bind_ok, bindN_ok, toS_ok, lift_some, sK_ap, sV_ap, s2_ap, sF_ap, aNil_ap, aCons_ap, sTup_ap, sLst_ap, sLstM_ap, sNeg_ap, sIf_ap, sCl_ap, sKget_ap, sKgetI_ap, sKin_ap, sKnin_ap, sIsi_ap, sCh_ap, sFK_ap, sMt_ap, sNot_ap, sAnd_ap, sOr_ap, tB_ap, tT_ap, tNot_ap, tAnd_ap, tOr_ap, oNo_ap, oSo_ap, sSl_ap, sIt_ap, sEnm_ap, sRg1_ap, sRg2_ap, xSeq_ap, xNil_ap, xRet_ap, xRetN_ap, xExp_ap, xSet_ap, xAsg_ap, xPar_ap, xPar3_ap, xIf_ap, xPut_ap, xFor_ap, gN_ap, gsN_ap, gsC_ap, gT_ap, add_ii, sub_ii, lt_ii, le_ii, gt_ii, ge_ii, eq_ii, ne_ii, eq_ss, ne_ss, mkT_ap, allD_nil, allD_d, items_tup, items_lst, walk_lst, walk_tup, walk_s, froz_tup, froz_lst, tru_bl, tru_int, tru_no, len_tup, len_lst, len_s, min_ii, max_ii, int_bl, int_in, tuple_tup, tuple_lst, tyN_int, tyN_tup, tyN_str, kit_ib, kit_ii, kit_tt, kit_st, kit_it, enum_nil, enum_cons, for_nil, List.getElem?_cons_zero, List.getElem?_cons_succ, List.set_cons_zero, List.set_cons_succ, List.length_cons, List.length_nil, Option.map_some, Option.bind_some, Bool.not_true, Bool.not_false, decide_true, decide_false, decide_eq_true_eq, if_true, if_false, Bool.false_eq_true, Nat.reduceAdd, Nat.reduceSub, Nat.reduceLeDiff, Nat.reduceMul, Nat.reduceLT, Nat.reduceEqDiff, reduceIte, Bool.true_eq_false, and_true, true_and, and_self, Option.isSome_some, Option.isSome_none, List.append_nil, List.nil_append, List.cons_append, Nat.zero_add, Nat.add_zero, eq_self, Int.cast_ofNat_Int, Int.reduceEq, Int.reduceNe, Int.reduceLT, Int.reduceLE, Int.reduceNeg, Int.reduceAdd, Int.reduceSub, Int.reduceMul, hc1, hc2, d1, d2, eq_bb, bt, bf, btf, bft, ty_lst, same_l, x1, x2, q, z2', b1, b2, k, List.map_cons, List.map_nil]
        · have eg : cg r1 false v1 r2 true v2 = false := by
            show (decide (r1 < r2) && decide ((v1 : Int) < (v2 : Int))) = false
            rw [decide_eq_false k, Bool.and_false]
          rw [em, eg]
          simp only [bind_ok, bindN_ok, toS_ok, lift_some, sK_ap, sV_ap, s2_ap, sF_ap, aNil_ap, aCons_ap, sTup_ap, sLst_ap, sLstM_ap, sNeg_ap, sIf_ap, sCl_ap, sKget_ap, sKgetI_ap, sKin_ap, sKnin_ap, sIsi_ap, sCh_ap, sFK_ap, sMt_ap, sNot_ap, sAnd_ap, sOr_ap, tB_ap, tT_ap, tNot_ap, tAnd_ap, tOr_ap, oNo_ap, oSo_ap, sSl_ap, sIt_ap, sEnm_ap, sRg1_ap, sRg2_ap, xSeq_ap, xNil_ap, xRet_ap, xRetN_ap, xExp_ap, xSet_ap, xAsg_ap, xPar_ap, xPar3_ap, xIf_ap, xPut_ap, xFor_ap, gN_ap, gsN_ap, gsC_ap, gT_ap, add_ii, sub_ii, lt_ii, le_ii, gt_ii, ge_ii, eq_ii, ne_ii, eq_ss, ne_ss, mkT_ap, allD_nil, allD_d, items_tup, items_lst, walk_lst, walk_tup, walk_s, froz_tup, froz_lst, tru_bl, tru_int, tru_no, len_tup, len_lst, len_s, min_ii, max_ii, int_bl, int_in, tuple_tup, tuple_lst, tyN_int, tyN_tup, tyN_str, kit_ib, kit_ii, kit_tt, kit_st, kit_it, enum_nil, enum_cons, for_nil, List.getElem?_cons_zero, List.getElem?_cons_succ, List.set_cons_zero, List.set_cons_succ, List.length_cons, List.length_nil, Option.map_some, Option.bind_some, Bool.not_true, Bool.not_false, decide_true, decide_false, decide_eq_true_eq, if_true, if_false, Bool.false_eq_true, Nat.reduceAdd, Nat.reduceSub, Nat.reduceLeDiff, Nat.reduceMul, Nat.reduceLT, Nat.reduceEqDiff, reduceIte, Bool.true_eq_false, and_true, true_and, and_self, Option.isSome_some, Option.isSome_none, List.append_nil, List.nil_append, List.cons_append, Nat.zero_add, Nat.add_zero, eq_self, Int.cast_ofNat_Int, Int.reduceEq, Int.reduceNe, Int.reduceLT, Int.reduceLE, Int.reduceNeg, Int.reduceAdd, Int.reduceSub, Int.reduceMul, hc1, hc2, d1, d2, eq_bb, bt, bf, btf, bft, ty_lst, same_l, x1, x2, q, z2', b1, b2, k, u_cat h2, List.map_cons, List.map_nil]
    · have i1 : ixn r1 true = 2 * r1 + 1 := rfl
      have i2 : ixn r2 false = 2 * r2 + 2 := rfl
      by_cases q : (ixn r1 true : Int) < (ixn r2 false : Int)
      · have em : m = r2 := by omega
        have eg : cg r1 true v1 r2 false v2 = false := by
          show (decide (r2 < r1) && decide ((v2 : Int) < (v1 : Int))) = false
          rw [decide_eq_false (by omega)]
          rfl
        rw [em, eg]
        simp only [bind_ok, bindN_ok, toS_ok, lift_some, sK_ap, sV_ap, s2_ap, sF_ap, aNil_ap, aCons_ap, sTup_ap, sLst_ap, sLstM_ap, sNeg_ap, sIf_ap, sCl_ap, sKget_ap, sKgetI_ap, sKin_ap, sKnin_ap, sIsi_ap, sCh_ap, sFK_ap, sMt_ap, sNot_ap, sAnd_ap, sOr_ap, tB_ap, tT_ap, tNot_ap, tAnd_ap, tOr_ap, oNo_ap, oSo_ap, sSl_ap, sIt_ap, sEnm_ap, sRg1_ap, sRg2_ap, xSeq_ap, xNil_ap, xRet_ap, xRetN_ap, xExp_ap, xSet_ap, xAsg_ap, xPar_ap, xPar3_ap, xIf_ap, xPut_ap, xFor_ap, gN_ap, gsN_ap, gsC_ap, gT_ap, add_ii, sub_ii, lt_ii, le_ii, gt_ii, ge_ii, eq_ii, ne_ii, eq_ss, ne_ss, mkT_ap, allD_nil, allD_d, items_tup, items_lst, walk_lst, walk_tup, walk_s, froz_tup, froz_lst, tru_bl, tru_int, tru_no, len_tup, len_lst, len_s, min_ii, max_ii, int_bl, int_in, tuple_tup, tuple_lst, tyN_int, tyN_tup, tyN_str, kit_ib, kit_ii, kit_tt, kit_st, kit_it, enum_nil, enum_cons, for_nil, List.getElem?_cons_zero, List.getElem?_cons_succ, List.set_cons_zero, List.set_cons_succ, List.length_cons, List.length_nil, Option.map_some, Option.bind_some, Bool.not_true, Bool.not_false, decide_true, decide_false, decide_eq_true_eq, if_true, if_false, Bool.false_eq_true, Nat.reduceAdd, Nat.reduceSub, Nat.reduceLeDiff, Nat.reduceMul, Nat.reduceLT, Nat.reduceEqDiff, reduceIte, Bool.true_eq_false, and_true, true_and, and_self, Option.isSome_some, Option.isSome_none, List.append_nil, List.nil_append, List.cons_append, Nat.zero_add, Nat.add_zero, eq_self, Int.cast_ofNat_Int, Int.reduceEq, Int.reduceNe, Int.reduceLT, Int.reduceLE, Int.reduceNeg, Int.reduceAdd, Int.reduceSub, Int.reduceMul, hc1, hc2, d1, d2, eq_bb, bt, bf, btf, bft, ty_lst, same_l, x1, x2, q, z2', List.map_cons, List.map_nil]
      · have em : m = r1 := by omega
        by_cases k : (v2 : Int) < (v1 : Int)
        · have eg : cg r1 true v1 r2 false v2 = true := by
            show (decide (r2 < r1) && decide ((v2 : Int) < (v1 : Int))) = true
            rw [decide_eq_true (by omega), decide_eq_true k]
            rfl
          rw [em, eg]
          simp only [bind_ok, bindN_ok, toS_ok, lift_some, sK_ap, sV_ap, s2_ap, sF_ap, aNil_ap, aCons_ap, sTup_ap, sLst_ap, sLstM_ap, sNeg_ap, sIf_ap, sCl_ap, sKget_ap, sKgetI_ap, sKin_ap, sKnin_ap, sIsi_ap, sCh_ap, sFK_ap, sMt_ap, sNot_ap, sAnd_ap, sOr_ap, tB_ap, tT_ap, tNot_ap, tAnd_ap, tOr_ap, oNo_ap, oSo_ap, sSl_ap, sIt_ap, sEnm_ap, sRg1_ap, sRg2_ap, xSeq_ap, xNil_ap, xRet_ap, xRetN_ap, xExp_ap, xSet_ap, xAsg_ap, xPar_ap, xPar3_ap, xIf_ap, xPut_ap, xFor_ap, gN_ap, gsN_ap, gsC_ap, gT_ap, add_ii, sub_ii, lt_ii, le_ii, gt_ii, ge_ii, eq_ii, ne_ii, eq_ss, ne_ss, mkT_ap, allD_nil, allD_d, items_tup, items_lst, walk_lst, walk_tup, walk_s, froz_tup, froz_lst, tru_bl, tru_int, tru_no, len_tup, len_lst, len_s, min_ii, max_ii, int_bl, int_in, tuple_tup, tuple_lst, tyN_int, tyN_tup, tyN_str, kit_ib, kit_ii, kit_tt, kit_st, kit_it, enum_nil, enum_cons, for_nil, List.getElem?_cons_zero, List.getElem?_cons_succ, List.set_cons_zero, List.set_cons_succ, List.length_cons, List.length_nil, Option.map_some, Option.bind_some, Bool.not_true, Bool.not_false, decide_true, decide_false, decide_eq_true_eq, if_true, if_false, Bool.false_eq_true, Nat.reduceAdd, Nat.reduceSub, Nat.reduceLeDiff, Nat.reduceMul, Nat.reduceLT, Nat.reduceEqDiff, reduceIte, Bool.true_eq_false, and_true, true_and, and_self, Option.isSome_some, Option.isSome_none, List.append_nil, List.nil_append, List.cons_append, Nat.zero_add, Nat.add_zero, eq_self, Int.cast_ofNat_Int, Int.reduceEq, Int.reduceNe, Int.reduceLT, Int.reduceLE, Int.reduceNeg, Int.reduceAdd, Int.reduceSub, Int.reduceMul, hc1, hc2, d1, d2, eq_bb, bt, bf, btf, bft, ty_lst, same_l, x1, x2, q, z2', b1, b2, k, List.map_cons, List.map_nil]
        · have eg : cg r1 true v1 r2 false v2 = false := by
            show (decide (r2 < r1) && decide ((v2 : Int) < (v1 : Int))) = false
            rw [decide_eq_false k, Bool.and_false]
          rw [em, eg]
          simp only [bind_ok, bindN_ok, toS_ok, lift_some, sK_ap, sV_ap, s2_ap, sF_ap, aNil_ap, aCons_ap, sTup_ap, sLst_ap, sLstM_ap, sNeg_ap, sIf_ap, sCl_ap, sKget_ap, sKgetI_ap, sKin_ap, sKnin_ap, sIsi_ap, sCh_ap, sFK_ap, sMt_ap, sNot_ap, sAnd_ap, sOr_ap, tB_ap, tT_ap, tNot_ap, tAnd_ap, tOr_ap, oNo_ap, oSo_ap, sSl_ap, sIt_ap, sEnm_ap, sRg1_ap, sRg2_ap, xSeq_ap, xNil_ap, xRet_ap, xRetN_ap, xExp_ap, xSet_ap, xAsg_ap, xPar_ap, xPar3_ap, xIf_ap, xPut_ap, xFor_ap, gN_ap, gsN_ap, gsC_ap, gT_ap, add_ii, sub_ii, lt_ii, le_ii, gt_ii, ge_ii, eq_ii, ne_ii, eq_ss, ne_ss, mkT_ap, allD_nil, allD_d, items_tup, items_lst, walk_lst, walk_tup, walk_s, froz_tup, froz_lst, tru_bl, tru_int, tru_no, len_tup, len_lst, len_s, min_ii, max_ii, int_bl, int_in, tuple_tup, tuple_lst, tyN_int, tyN_tup, tyN_str, kit_ib, kit_ii, kit_tt, kit_st, kit_it, enum_nil, enum_cons, for_nil, List.getElem?_cons_zero, List.getElem?_cons_succ, List.set_cons_zero, List.set_cons_succ, List.length_cons, List.length_nil, Option.map_some, Option.bind_some, Bool.not_true, Bool.not_false, decide_true, decide_false, decide_eq_true_eq, if_true, if_false, Bool.false_eq_true, Nat.reduceAdd, Nat.reduceSub, Nat.reduceLeDiff, Nat.reduceMul, Nat.reduceLT, Nat.reduceEqDiff, reduceIte, Bool.true_eq_false, and_true, true_and, and_self, Option.isSome_some, Option.isSome_none, List.append_nil, List.nil_append, List.cons_append, Nat.zero_add, Nat.add_zero, eq_self, Int.cast_ofNat_Int, Int.reduceEq, Int.reduceNe, Int.reduceLT, Int.reduceLE, Int.reduceNeg, Int.reduceAdd, Int.reduceSub, Int.reduceMul, hc1, hc2, d1, d2, eq_bb, bt, bf, btf, bft, ty_lst, same_l, x1, x2, q, z2', b1, b2, k, u_cat h1, List.map_cons, List.map_nil]
    · by_cases q : (ixn r2 true : Int) ≤ (ixn r1 true : Int)
      · have em : m = r1 := by
          have : ixn r2 true = 2 * r2 + 1 := rfl
          have : ixn r1 true = 2 * r1 + 1 := rfl
          omega
        rw [em]
        simp only [bind_ok, bindN_ok, toS_ok, lift_some, sK_ap, sV_ap, s2_ap, sF_ap, aNil_ap, aCons_ap, sTup_ap, sLst_ap, sLstM_ap, sNeg_ap, sIf_ap, sCl_ap, sKget_ap, sKgetI_ap, sKin_ap, sKnin_ap, sIsi_ap, sCh_ap, sFK_ap, sMt_ap, sNot_ap, sAnd_ap, sOr_ap, tB_ap, tT_ap, tNot_ap, tAnd_ap, tOr_ap, oNo_ap, oSo_ap, sSl_ap, sIt_ap, sEnm_ap, sRg1_ap, sRg2_ap, xSeq_ap, xNil_ap, xRet_ap, xRetN_ap, xExp_ap, xSet_ap, xAsg_ap, xPar_ap, xPar3_ap, xIf_ap, xPut_ap, xFor_ap, gN_ap, gsN_ap, gsC_ap, gT_ap, add_ii, sub_ii, lt_ii, le_ii, gt_ii, ge_ii, eq_ii, ne_ii, eq_ss, ne_ss, mkT_ap, allD_nil, allD_d, items_tup, items_lst, walk_lst, walk_tup, walk_s, froz_tup, froz_lst, tru_bl, tru_int, tru_no, len_tup, len_lst, len_s, min_ii, max_ii, int_bl, int_in, tuple_tup, tuple_lst, tyN_int, tyN_tup, tyN_str, kit_ib, kit_ii, kit_tt, kit_st, kit_it, enum_nil, enum_cons, for_nil, List.getElem?_cons_zero, List.getElem?_cons_succ, List.set_cons_zero, List.set_cons_succ, List.length_cons, List.length_nil, Option.map_some, Option.bind_some, Bool.not_true, Bool.not_false, decide_true, decide_false, decide_eq_true_eq, if_true, if_false, Bool.false_eq_true, Nat.reduceAdd, Nat.reduceSub, Nat.reduceLeDiff, Nat.reduceMul, Nat.reduceLT, Nat.reduceEqDiff, reduceIte, Bool.true_eq_false, and_true, true_and, and_self, Option.isSome_some, Option.isSome_none, List.append_nil, List.nil_append, List.cons_append, Nat.zero_add, Nat.add_zero, eq_self, Int.cast_ofNat_Int, Int.reduceEq, Int.reduceNe, Int.reduceLT, Int.reduceLE, Int.reduceNeg, Int.reduceAdd, Int.reduceSub, Int.reduceMul, hc1, hc2, d1, d2, eq_bb, bt, bf, btf, bft, ty_lst, same_l, x1, x2, q]
        rfl
      · have em : m = r2 := by
          have : ixn r2 true = 2 * r2 + 1 := rfl
          have : ixn r1 true = 2 * r1 + 1 := rfl
          omega
        rw [em]
        simp only [bind_ok, bindN_ok, toS_ok, lift_some, sK_ap, sV_ap, s2_ap, sF_ap, aNil_ap, aCons_ap, sTup_ap, sLst_ap, sLstM_ap, sNeg_ap, sIf_ap, sCl_ap, sKget_ap, sKgetI_ap, sKin_ap, sKnin_ap, sIsi_ap, sCh_ap, sFK_ap, sMt_ap, sNot_ap, sAnd_ap, sOr_ap, tB_ap, tT_ap, tNot_ap, tAnd_ap, tOr_ap, oNo_ap, oSo_ap, sSl_ap, sIt_ap, sEnm_ap, sRg1_ap, sRg2_ap, xSeq_ap, xNil_ap, xRet_ap, xRetN_ap, xExp_ap, xSet_ap, xAsg_ap, xPar_ap, xPar3_ap, xIf_ap, xPut_ap, xFor_ap, gN_ap, gsN_ap, gsC_ap, gT_ap, add_ii, sub_ii, lt_ii, le_ii, gt_ii, ge_ii, eq_ii, ne_ii, eq_ss, ne_ss, mkT_ap, allD_nil, allD_d, items_tup, items_lst, walk_lst, walk_tup, walk_s, froz_tup, froz_lst, tru_bl, tru_int, tru_no, len_tup, len_lst, len_s, min_ii, max_ii, int_bl, int_in, tuple_tup, tuple_lst, tyN_int, tyN_tup, tyN_str, kit_ib, kit_ii, kit_tt, kit_st, kit_it, enum_nil, enum_cons, for_nil, List.getElem?_cons_zero, List.getElem?_cons_succ, List.set_cons_zero, List.set_cons_succ, List.length_cons, List.length_nil, Option.map_some, Option.bind_some, Bool.not_true, Bool.not_false, decide_true, decide_false, decide_eq_true_eq, if_true, if_false, Bool.false_eq_true, Nat.reduceAdd, Nat.reduceSub, Nat.reduceLeDiff, Nat.reduceMul, Nat.reduceLT, Nat.reduceEqDiff, reduceIte, Bool.true_eq_false, and_true, true_and, and_self, Option.isSome_some, Option.isSome_none, List.append_nil, List.nil_append, List.cons_append, Nat.zero_add, Nat.add_zero, eq_self, Int.cast_ofNat_Int, Int.reduceEq, Int.reduceNe, Int.reduceLT, Int.reduceLE, Int.reduceNeg, Int.reduceAdd, Int.reduceSub, Int.reduceMul, hc1, hc2, d1, d2, eq_bb, bt, bf, btf, bft, ty_lst, same_l, x1, x2, q]
        rfl
  obtain ⟨o, ho⟩ := key
  have q := dF_rt (np := 3) (ns := 8) (b := b__law_common) (as := [.d (sch (wds a b c d e) pl), .d (.str z1), .d (.str z2)]) rfl ho rfl
  exact q.trans (congrArg (Res.ok _) (push_take st o))
end
/-- the two ways of counting -/
theorem tri (r : Int) : ∃ k, r * r = 2 * k + r := by
  have h : r % 2 = 0 ∨ r % 2 = 1 := by omega
  rcases h with h | h
  · obtain ⟨q, hq⟩ : ∃ q, r = 2 * q := ⟨r / 2, by omega⟩
    refine ⟨q * r - q, ?_⟩
    have : r * r = 2 * (q * r) := by
      conv => lhs; lhs; rw [hq]
      rw [Int.mul_assoc]
    omega
  · obtain ⟨q, hq⟩ : ∃ q, r = 2 * q + 1 := ⟨r / 2, by omega⟩
    refine ⟨q * r, ?_⟩
    have : r * r = 2 * (q * r) + r := by
      conv => lhs; lhs; rw [hq]
      rw [Int.add_mul, Int.one_mul, Int.mul_assoc]
    omega
theorem count_eq {m h t : Int} (hm : 0 ≤ m) (hh : 0 ≤ h) (ht : h ≤ t) (hmt : m ≤ t + 1) :
    (if t - h < m then t - h else m) * (h + 1) + (m - (if t - h < m then t - h else m)) * (t + 1) - (m * (m + 1) - (if t - h < m then t - h else m) * ((if t - h < m then t - h else m) + 1)) / 2 =
    (if (if t - m + 1 > 0 then t - m + 1 else 0) < h + 1 then (if t - m + 1 > 0 then t - m + 1 else 0) else h + 1) * m + (h + 1 - (if (if t - m + 1 > 0 then t - m + 1 else 0) < h + 1 then (if t - m + 1 > 0 then t - m + 1 else 0) else h + 1)) * (t - (if (if t - m + 1 > 0 then t - m + 1 else 0) < h + 1 then (if t - m + 1 > 0 then t - m + 1 else 0) else h + 1) + t - h) / 2 := by
  by_cases q : t - h < m
  · have e : (if t - m + 1 > 0 then t - m + 1 else 0) = t - m + 1 := by split <;> omega
    rw [if_pos q, e, if_pos (by omega)]
    obtain ⟨d, hd⟩ : ∃ d, d = t - h := ⟨_, rfl⟩
    obtain ⟨r, hr⟩ : ∃ r, r = m - d := ⟨_, rfl⟩
    have et : t = h + d := by omega
    have em : m = d + r := by omega
    subst et em
    obtain ⟨k, hk⟩ := tri r
    rw [show h + d - h = d by omega, show d + r - d = r by omega, show h + d - (d + r) + 1 = h - r + 1 by omega, show h + 1 - (h - r + 1) = r by omega, show h + d - (h - r + 1) + (h + d) - h = 2 * d + r - 1 by omega]
    have x1 : (d + r) * (d + r + 1) - d * (d + 1) = 2 * (d * r + k + r) := by
      simp only [Int.add_mul, Int.mul_add, Int.mul_one, hk, Int.mul_comm r d]
      omega
    have x2 : r * (2 * d + r - 1) = 2 * (d * r + k) := by
      rw [show 2 * d + r - 1 = d + d + r + (-1) by omega]
      simp only [Int.mul_add, hk, Int.mul_comm r d]
      omega
    rw [x1, x2, Int.mul_ediv_cancel_left _ (by decide), Int.mul_ediv_cancel_left _ (by decide), show h - r + 1 = h + (-r) + 1 by omega]
    simp only [Int.add_mul, Int.mul_add, Int.mul_one, Int.one_mul, Int.neg_mul, hk, Int.mul_comm r d, Int.mul_comm r h, Int.mul_comm d h]
    omega
  · rw [if_neg q]
    have e : (if (if t - m + 1 > 0 then t - m + 1 else 0) < h + 1 then (if t - m + 1 > 0 then t - m + 1 else 0) else h + 1) = h + 1 := by
      have : (if t - m + 1 > 0 then t - m + 1 else 0) = t - m + 1 := by split <;> omega
      rw [this, if_neg (by omega)]
    rw [e, Int.sub_self, Int.sub_self, Int.sub_self, Int.zero_mul, Int.zero_mul, Int.mul_comm m]
    omega
end K44

set_option maxHeartbeats 4000000
namespace K44
open PySem PySem.Spec PyProof.Rows L2 Vi
theorem p2 {v w : Nat} (h : v ≤ w) : (2 : Int) ^ v ≤ 2 ^ w := by exact_mod_cast Nat.pow_le_pow_right (by decide : 0 < 2) h
theorem loT {v : Nat} : lo true v = -2 ^ (v - 1) := rfl
theorem loF {v : Nat} : lo false v = 0 := rfl
theorem hiT {v : Nat} (h : 1 ≤ v) : hi true v = 2 ^ (v - 1) - 1 := by
  have := p2s h
  show lo true v + 2 ^ v - 1 = _
  rw [loT]
  omega
theorem hiF {v : Nat} : hi false v = 2 ^ v - 1 := by
  show lo false v + 2 ^ v - 1 = _
  rw [loF]
  omega
theorem mul_ab {st : Sto} {i j : Int} (hi : i.natAbs < 2 ^ 250) (hj : j.natAbs < 2 ^ 250) : oMul (.d (.int i)) (.d (.int j)) st = some (.d (.int (i * j)), st) := mul_ii (by
  have a := log2_lt (k := 249) hi
  have b := log2_lt (k := 249) hj
  omega)
/-- the two counts as the program and the law compute them -/
def cnt (m h t : Int) : Int := (if t - h < m then t - h else m) * (h + 1) + (m - (if t - h < m then t - h else m)) * (t + 1) - (m * (m + 1) - (if t - h < m then t - h else m) * ((if t - h < m then t - h else m) + 1)) / 2
theorem under_ok {m h t : Int} (hm : 0 ≤ m) (hm2 : m ≤ 2 ^ 130) (hh : 0 ≤ h) (hh2 : h ≤ 2 ^ 130) (ht : h ≤ t) (ht2 : t ≤ 2 ^ 130) (st : Sto) : F_count_under [.d (.int m), .d (.int h), .d (.int t)] st = .ok (.d (.int (cnt m h t))) st := by
  refine dF_pure rfl ?_
  show b_count_under [some (.d (.int m)), some (.d (.int h)), some (.d (.int t)), none, none] ⟨st.obs, st.n⟩ = _
  obtain ⟨w, hw⟩ : ∃ w, w = (if t - h < m then t - h else m) := ⟨_, rfl⟩
  have w0 : 0 ≤ w := by rw [hw]; split <;> omega
  have w1 : w ≤ m := by rw [hw]; split <;> omega
  have m1 := mul_sm (st := ⟨st.obs, st.n⟩) (i := w) (j := h + 1) w0 (by omega) (by omega) (by omega)
  have m2 := mul_sm (st := ⟨st.obs, st.n⟩) (i := m - w) (j := t + 1) (by omega) (by omega) (by omega) (by omega)
  have m3 := mul_sm (st := ⟨st.obs, st.n⟩) (i := m) (j := m + 1) hm (by omega) (by omega) (by omega)
  have m4 := mul_sm (st := ⟨st.obs, st.n⟩) (i := w) (j := w + 1) w0 (by omega) (by omega) (by omega)
  have dv := fun x => div_ii (st := ⟨st.obs, st.n⟩) (i := x) (j := 2) (by decide) (by decide)
  have mn : cMin [.d (.int m), .d (.int (t - h))] ⟨st.obs, st.n⟩ = some (.d (.int w), ⟨st.obs, st.n⟩) := by rw [min_ii, hw]
  unfold cnt
  rw [← hw]
  simp only [bind_ok, bindN_ok, toS_ok, lift_some, sK_ap, sV_ap, s2_ap, sF_ap, aNil_ap, aCons_ap, sTup_ap, sLst_ap, sLstM_ap, sNeg_ap, sIf_ap, sCl_ap, sKget_ap, sKgetI_ap, sKin_ap, sKnin_ap, sIsi_ap, sCh_ap, sFK_ap, sMt_ap, sNot_ap, sAnd_ap, sOr_ap, tB_ap, tT_ap, tNot_ap, tAnd_ap, tOr_ap, oNo_ap, oSo_ap, sSl_ap, sIt_ap, sEnm_ap, sRg1_ap, sRg2_ap, xSeq_ap, xNil_ap, xRet_ap, xRetN_ap, xExp_ap, xSet_ap, xAsg_ap, xPar_ap, xPar3_ap, xIf_ap, xPut_ap, xFor_ap, gN_ap, gsN_ap, gsC_ap, gT_ap, add_ii, sub_ii, lt_ii, le_ii, gt_ii, ge_ii, eq_ii, ne_ii, eq_ss, ne_ss, mkT_ap, allD_nil, allD_d, items_tup, items_lst, walk_lst, walk_tup, walk_s, froz_tup, froz_lst, tru_bl, tru_int, tru_no, len_tup, len_lst, len_s, min_ii, max_ii, int_bl, int_in, tuple_tup, tuple_lst, tyN_int, tyN_tup, tyN_str, kit_ib, kit_ii, kit_tt, kit_st, kit_it, enum_nil, enum_cons, for_nil, List.getElem?_cons_zero, List.getElem?_cons_succ, List.set_cons_zero, List.set_cons_succ, List.length_cons, List.length_nil, Option.map_some, Option.bind_some, Bool.not_true, Bool.not_false, decide_true, decide_false, decide_eq_true_eq, if_true, if_false, Bool.false_eq_true, Nat.reduceAdd, Nat.reduceSub, Nat.reduceLeDiff, Nat.reduceMul, Nat.reduceLT, Nat.reduceEqDiff, reduceIte, Bool.true_eq_false, and_true, true_and, and_self, Option.isSome_some, Option.isSome_none, List.append_nil, List.nil_append, List.cons_append, Nat.zero_add, Nat.add_zero, eq_self, Int.cast_ofNat_Int, Int.reduceEq, Int.reduceNe, Int.reduceLT, Int.reduceLE, Int.reduceNeg, Int.reduceAdd, Int.reduceSub, Int.reduceMul, b_count_under] at mn ⊢
  simp only [bind_ok, bindN_ok, toS_ok, lift_some, sK_ap, sV_ap, s2_ap, sF_ap, aNil_ap, aCons_ap, sTup_ap, sLst_ap, sLstM_ap, sNeg_ap, sIf_ap, sCl_ap, sKget_ap, sKgetI_ap, sKin_ap, sKnin_ap, sIsi_ap, sCh_ap, sFK_ap, sMt_ap, sNot_ap, sAnd_ap, sOr_ap, tB_ap, tT_ap, tNot_ap, tAnd_ap, tOr_ap, oNo_ap, oSo_ap, sSl_ap, sIt_ap, sEnm_ap, sRg1_ap, sRg2_ap, xSeq_ap, xNil_ap, xRet_ap, xRetN_ap, xExp_ap, xSet_ap, xAsg_ap, xPar_ap, xPar3_ap, xIf_ap, xPut_ap, xFor_ap, gN_ap, gsN_ap, gsC_ap, gT_ap, add_ii, sub_ii, lt_ii, le_ii, gt_ii, ge_ii, eq_ii, ne_ii, eq_ss, ne_ss, mkT_ap, allD_nil, allD_d, items_tup, items_lst, walk_lst, walk_tup, walk_s, froz_tup, froz_lst, tru_bl, tru_int, tru_no, len_tup, len_lst, len_s, min_ii, max_ii, int_bl, int_in, tuple_tup, tuple_lst, tyN_int, tyN_tup, tyN_str, kit_ib, kit_ii, kit_tt, kit_st, kit_it, enum_nil, enum_cons, for_nil, List.getElem?_cons_zero, List.getElem?_cons_succ, List.set_cons_zero, List.set_cons_succ, List.length_cons, List.length_nil, Option.map_some, Option.bind_some, Bool.not_true, Bool.not_false, decide_true, decide_false, decide_eq_true_eq, if_true, if_false, Bool.false_eq_true, Nat.reduceAdd, Nat.reduceSub, Nat.reduceLeDiff, Nat.reduceMul, Nat.reduceLT, Nat.reduceEqDiff, reduceIte, Bool.true_eq_false, and_true, true_and, and_self, Option.isSome_some, Option.isSome_none, List.append_nil, List.nil_append, List.cons_append, Nat.zero_add, Nat.add_zero, eq_self, Int.cast_ofNat_Int, Int.reduceEq, Int.reduceNe, Int.reduceLT, Int.reduceLE, Int.reduceNeg, Int.reduceAdd, Int.reduceSub, Int.reduceMul, ← hw, m1, m2, m3, m4, dv]
end K44

set_option maxHeartbeats 4000000
namespace K44
open PySem PySem.Spec PyProof.Rows L2 Vi
section
variable {a b c d e : Int} {z : Str} {r ix : Nat} {sg : Str → Bool} {pl : Str}
theorem widths_at (W : Wd a b c d e) {r : Nat} (hr : r ≤ 4) : ∃ v : Nat, (wds a b c d e)[r]? = some (.int (v : Int)) ∧ 2 ≤ v ∧ v ≤ 128 := by
  obtain ⟨h0, h1, h2, h3, h4, h5⟩ := W
  have go : ∀ x : Int, 2 ≤ x → x ≤ 128 → ∃ v : Nat, x = (v : Int) ∧ 2 ≤ v ∧ v ≤ 128 := fun x l u => ⟨x.toNat, by omega, by omega, by omega⟩
  have h : r = 0 ∨ r = 1 ∨ r = 2 ∨ r = 3 ∨ r = 4 := by omega
  rcases h with rfl | rfl | rfl | rfl | rfl
  · obtain ⟨v, rfl, l, u⟩ := go a (by omega) (by omega)
    exact ⟨v, rfl, l, u⟩
  · obtain ⟨v, rfl, l, u⟩ := go b (by omega) (by omega)
    exact ⟨v, rfl, l, u⟩
  · obtain ⟨v, rfl, l, u⟩ := go c (by omega) (by omega)
    exact ⟨v, rfl, l, u⟩
  · obtain ⟨v, rfl, l, u⟩ := go d (by omega) (by omega)
    exact ⟨v, rfl, l, u⟩
  · obtain ⟨v, rfl, l, u⟩ := go e (by omega) (by omega)
    exact ⟨v, rfl, l, u⟩
theorem at_int {x : Int} {r : Nat} {xs : List PD} {v : Nat} (h : xs[r]? = some (.int (v : Int))) (h' : xs[r]? = some (.int x)) : x = v := by
  rw [h] at h'
  injection h' with e1
  injection e1 with e2
  exact e2.symm
theorem mono (W : Wd a b c d e) {i j : Nat} {v w : Nat} (h : i ≤ j) (hv : (wds a b c d e)[i]? = some (.int (v : Int))) (hw : (wds a b c d e)[j]? = some (.int (w : Int))) : v ≤ w := by
  obtain ⟨h0, h1, h2, h3, h4, h5⟩ := W
  have hj : j < 5 := (List.getElem?_eq_some_iff.mp hw).1
  have gi : i = 0 ∨ i = 1 ∨ i = 2 ∨ i = 3 ∨ i = 4 := by omega
  have gj : j = 0 ∨ j = 1 ∨ j = 2 ∨ j = 3 ∨ j = 4 := by omega
  have vi : (i = 0 → a = v) ∧ (i = 1 → b = v) ∧ (i = 2 → c = v) ∧ (i = 3 → d = v) ∧ (i = 4 → e = v) := by
    refine ⟨?_, ?_, ?_, ?_, ?_⟩ <;> (rintro rfl; exact at_int hv rfl)
  have wj : (j = 0 → a = w) ∧ (j = 1 → b = w) ∧ (j = 2 → c = w) ∧ (j = 3 → d = w) ∧ (j = 4 → e = w) := by
    refine ⟨?_, ?_, ?_, ?_, ?_⟩ <;> (rintro rfl; exact at_int hw rfl)
  omega
/-- within: the numbers of a kind are those of another, too -/
abbrev Inn (g : Bool) (v : Nat) (g' : Bool) (v' : Nat) : Prop := lo g' v' ≤ lo g v ∧ hi g v ≤ hi g' v'
theorem hi_pos {g : Bool} {v : Nat} (h : 2 ≤ v) : 0 ≤ hi g v ∧ lo g v ≤ 0 := by
  cases g
  · have := p2p v
    rw [hiF, loF]
    omega
  · have := p2p (v - 1)
    rw [hiT (by omega), loT]
    omega
theorem inn_same {g : Bool} {v w : Nat} (h0 : 2 ≤ v) (h : v ≤ w) : Inn g v g w := by
  cases g
  · have := p2 h
    exact ⟨Int.le_refl _, by rw [hiF, hiF]; omega⟩
  · have := p2 (show v - 1 ≤ w - 1 by omega)
    exact ⟨by rw [loT, loT]; omega, by rw [hiT (by omega), hiT (by omega)]; omega⟩
theorem inn_us {v w : Nat} (h0 : 2 ≤ v) (h : v < w) : Inn false v true w := by
  have := p2 (show v ≤ w - 1 by omega)
  have := p2p (w - 1)
  exact ⟨by rw [loT, loF]; omega, by rw [hiF, hiT (by omega)]; omega⟩
theorem hi_su {v w : Nat} (h0 : 2 ≤ v) (h : v ≤ w) : hi true v ≤ hi false w := by
  have := p2 (show v - 1 ≤ w by omega)
  rw [hiT (by omega), hiF]
  omega
/-- a promoted kind, by both -/
theorem prom_kd (W : Wd a b c d e) (hp : pl = "s" ∨ pl = "u") (hz : z ∈ labs) : ∃ r ix sg v w r' g' v', Lab z r ix sg ∧ (wds a b c d e)[r]? = some (.int (v : Nat)) ∧ (wds a b c d e)[2]? = some (.int (w : Nat)) ∧ (r < 2 → v ≤ w) ∧ Kd (wds a b c d e) pl z (sg pl) v ∧ R234 r' ∧ (∀ st, F_promoted_in [.d (sch (wds a b c d e) pl), .d (.str z)] st = .ok (.d (.str (nm r' g'))) st) ∧ pmz r z sg pl (v : Nat) (w : Nat) = nm r' g' ∧
    (wds a b c d e)[r']? = some (.int (v' : Nat)) ∧ Kd (wds a b c d e) pl (nm r' g') g' v' ∧ Inn (sg pl) v g' v' ∧ v ≤ v' := by
  obtain ⟨r, ix, sg, L⟩ := lab_ok hz
  obtain ⟨v, hv, l, u⟩ := widths_at W L.le
  obtain ⟨w, hw, wl, wu⟩ := widths_at W (show 2 ≤ 4 by decide)
  have K := kd_of hp L hv l u
  have p := fun st => prom_in (v := v) (w := w) hp L hv hw st
  have vw : r < 2 → v ≤ w := fun q => mono W (by omega) hv hw
  by_cases q : 2 ≤ r
  · obtain ⟨g, hg⟩ := nm_of hz L q
    have hr : R234 r := by have := L.le; omega
    have e1 : pmz r z sg pl (v : Nat) (w : Nat) = nm r g := by rw [show pmz r z sg pl (v : Nat) (w : Nat) = z from if_pos q, hg]
    have p : ∀ st, F_promoted_in [.d (sch (wds a b c d e) pl), .d (.str z)] st = .ok (.d (.str (nm r g))) st := fun st => by rw [p st, if_pos q, hg]
    have KN := kd_of hp (labN hr g) hv l u
    have eg : sg pl = g := by
      have h1 := K.hel ⟨[], 0⟩
      have h2 := KN.hel ⟨[], 0⟩
      rw [← hg, h1] at h2
      injection h2 with h3
      injection h3 with h4
      injection h4
    exact ⟨r, ix, sg, v, w, r, g, v, L, hv, hw, vw, K, hr, p, e1, hv, KN, by rw [eg]; exact ⟨Int.le_refl _, Int.le_refl _⟩, Nat.le_refl _⟩
  · have vw' := vw (by omega)
    by_cases k : pg sg pl (v : Int) (w : Int) = true
    · have e1 : pmz r z sg pl (v : Nat) (w : Nat) = nm 2 true := by
        show (if 2 ≤ r then z else if pg sg pl (v : Int) (w : Int) = true then "int" else "uint") = _
        rw [if_neg q, if_pos k]
        rfl
      have p : ∀ st, F_promoted_in [.d (sch (wds a b c d e) pl), .d (.str z)] st = .ok (.d (.str (nm 2 true))) st := fun st => by rw [p st]; exact congrArg (fun x => Res.ok (Va.d (.str x)) st) e1
      refine ⟨r, ix, sg, v, w, 2, true, w, L, hv, hw, vw, K, .inl rfl, p, e1, hw, kd_of hp (labN (.inl rfl) true) hw wl wu, ?_, vw'⟩
      have k : (sg pl || decide ((v : Int) < (w : Int))) = true := k
      cases hs : sg pl
      · rw [hs, Bool.false_or] at k
        exact inn_us l (by have := of_decide_eq_true k; omega)
      · exact inn_same l vw'
    · have e1 : pmz r z sg pl (v : Nat) (w : Nat) = nm 2 false := by
        show (if 2 ≤ r then z else if pg sg pl (v : Int) (w : Int) = true then "int" else "uint") = _
        rw [if_neg q, if_neg k]
        rfl
      have p : ∀ st, F_promoted_in [.d (sch (wds a b c d e) pl), .d (.str z)] st = .ok (.d (.str (nm 2 false))) st := fun st => by rw [p st]; exact congrArg (fun x => Res.ok (Va.d (.str x)) st) e1
      refine ⟨r, ix, sg, v, w, 2, false, w, L, hv, hw, vw, K, .inl rfl, p, e1, hw, kd_of hp (labN (.inl rfl) false) hw wl wu, ?_, vw'⟩
      have k : ¬ (sg pl || decide ((v : Int) < (w : Int))) = true := k
      cases hs : sg pl
      · exact inn_same l vw'
      · rw [hs] at k
        exact absurd rfl k
/-- a common kind, by both -/
theorem comm_kd (W : Wd a b c d e) (hp : pl = "s" ∨ pl = "u") {z1 z2 : Str} (h1 : z1 ∈ labs) (h2 : z2 ∈ labs) : ∃ g1 v1 g2 v2 x gc vc, Kd (wds a b c d e) pl z1 g1 v1 ∧ Kd (wds a b c d e) pl z2 g2 v2 ∧ Kd (wds a b c d e) pl x gc vc ∧
    (∀ st, F_common_in [.d (sch (wds a b c d e) pl), .d (.str z1), .d (.str z2)] st = .ok (.d (.str x)) st) ∧ (∀ st, F__law_common [.d (sch (wds a b c d e) pl), .d (.str z1), .d (.str z2)] st = .ok (.d (.str x)) st) ∧ hi g1 v1 ≤ hi gc vc ∧ hi g2 v2 ≤ hi gc vc ∧ (gc = true → lo gc vc ≤ lo g1 v1 ∧ lo gc vc ≤ lo g2 v2) ∧ (gc = false → g1 = true → g2 = false) ∧ v1 ≤ vc ∧ v2 ≤ vc ∧ (v1 : Int) ≤ e ∧ (v2 : Int) ≤ e ∧ (vc : Int) ≤ e := by
  obtain ⟨rz1, ix1, sg1, u1, w, r1, g1', v1', L1, hu1, hw, vw1, K1, hr1, p1, e1, w1, K1', n1, y1⟩ := prom_kd W hp h1
  obtain ⟨rz2, ix2, sg2, u2, w', r2, g2', v2', L2, hu2, hw', vw2, K2, hr2, p2', e2, w2, K2', n2, y2⟩ := prom_kd W hp h2
  have ew : (w' : Int) = w := by
    rw [hw] at hw'
    injection hw' with q
    injection q with q
    omega
  have ew : w' = w := by omega
  subst ew
  obtain ⟨r, g, hr, cm, hc, hg⟩ := comm_in hp hr1 hr2 p1 p2' w1 w2
  have lc := fun st => lcom_ok W hp L1 L2 hu1 hu2 hw vw1 vw2 hr1 hr2 e1 e2 w1 w2 hc st
  rw [← hg] at lc
  obtain ⟨v, hv, l, u⟩ := widths_at W (show r ≤ 4 by omega)
  have m1 : v1' ≤ v := mono W (by omega) w1 hv
  have m2 : v2' ≤ v := mono W (by omega) w2 hv
  have l1 := K1'.l
  have l2 := K2'.l
  refine ⟨sg1 pl, u1, sg2 pl, u2, nm r g, g, v, K1, K2, kd_of hp (labN hr g) hv l u, cm, lc, ?_⟩
  have key : (hi g1' v1' ≤ hi g v ∧ hi g2' v2' ≤ hi g v) ∧ (g = true → lo g v ≤ lo g1' v1' ∧ lo g v ≤ lo g2' v2') ∧ (g = false → g1' = true → g2' = false) := by
    cases g1' <;> cases g2'
    · have hg : g = false := hg
      subst hg
      exact ⟨⟨(inn_same l1 m1).2, (inn_same l2 m2).2⟩, fun q => (Bool.noConfusion q), fun _ q => (Bool.noConfusion q)⟩
    · have hg : g = (decide (r1 < r2) && decide ((v1' : Int) < (v2' : Int))) := hg
      by_cases k : r1 < r2 ∧ v1' < v2'
      · have hg : g = true := by rw [hg, decide_eq_true k.1, decide_eq_true (show (v1' : Int) < (v2' : Int) by omega)]; rfl
        subst hg
        exact ⟨⟨(inn_us l1 (by omega)).2, (inn_same l2 m2).2⟩, fun _ => ⟨(inn_us l1 (by omega)).1, (inn_same l2 m2).1⟩, fun q => (Bool.noConfusion q)⟩
      · have hg : g = false := by
          rw [hg]
          by_cases k1 : r1 < r2
          · rw [decide_eq_true k1, Bool.true_and]
            exact decide_eq_false (by omega)
          · rw [decide_eq_false k1]
            rfl
        subst hg
        exact ⟨⟨(inn_same l1 m1).2, hi_su l2 m2⟩, fun q => (Bool.noConfusion q), fun _ q => (Bool.noConfusion q)⟩
    · have hg : g = (decide (r2 < r1) && decide ((v2' : Int) < (v1' : Int))) := hg
      by_cases k : r2 < r1 ∧ v2' < v1'
      · have hg : g = true := by rw [hg, decide_eq_true k.1, decide_eq_true (show (v2' : Int) < (v1' : Int) by omega)]; rfl
        subst hg
        exact ⟨⟨(inn_same l1 m1).2, (inn_us l2 (by omega)).2⟩, fun _ => ⟨(inn_same l1 m1).1, (inn_us l2 (by omega)).1⟩, fun q => (Bool.noConfusion q)⟩
      · have hg : g = false := by
          rw [hg]
          by_cases k1 : r2 < r1
          · rw [decide_eq_true k1, Bool.true_and]
            exact decide_eq_false (by omega)
          · rw [decide_eq_false k1]
            rfl
        subst hg
        exact ⟨⟨hi_su l1 m1, (inn_same l2 m2).2⟩, fun q => (Bool.noConfusion q), fun _ _ => rfl⟩
    · have hg : g = true := hg
      subst hg
      exact ⟨⟨(inn_same l1 m1).2, (inn_same l2 m2).2⟩, fun _ => ⟨(inn_same l1 m1).1, (inn_same l2 m2).1⟩, fun q => (Bool.noConfusion q)⟩
  have top : ∀ {i u : Nat}, i ≤ 4 → (wds a b c d e)[i]? = some (.int (u : Int)) → (u : Int) ≤ e := fun {i u} hi hu => by
    have W' := W
    obtain ⟨h0, h1, h2, h3, h4, h5⟩ := W'
    have he : (wds a b c d e)[4]? = some (.int ((e.toNat : Nat) : Int)) := by
      show some (PyData.int e) = _
      rw [show ((e.toNat : Nat) : Int) = e by omega]
    have := mono W hi hu he
    omega
  have sgn : ∀ {x y : Bool} {n m : Nat}, Inn x n y m → x = true → y = true := fun {x y n m} i hx => by
    subst hx
    cases y
    · have := i.1
      rw [loT, loF] at this
      have := p2p (n - 1)
      omega
    · rfl
  have gf : g = false → sg1 pl = true → sg2 pl = false := fun q s1 => by
    have s1' := sgn n1 s1
    have s2' := key.2.2 q s1'
    cases h : sg2 pl
    · rfl
    · rw [sgn n2 h] at s2'
      exact Bool.noConfusion s2'
  exact ⟨Int.le_trans n1.2 key.1.1, Int.le_trans n2.2 key.1.2, fun q => ⟨Int.le_trans (key.2.1 q).1 n1.1, Int.le_trans (key.2.1 q).2 n2.1⟩, gf, Nat.le_trans y1 m1, Nat.le_trans y2 m2, top L1.le hu1, top L2.le hu2, top (show r ≤ 4 by omega) hv⟩
end
end K44

set_option maxHeartbeats 4000000
namespace K44
open PySem PySem.Spec PyProof.Rows L2 Vi
theorem cnt_0 {h t : Int} (hh : 0 ≤ h) (ht : h ≤ t) : cnt 0 h t = 0 := by
  unfold cnt
  rw [if_neg (by omega)]
  simp
/-- one row more: by the signed numbers -/
theorem cnt_m {m h t : Int} (hm : 1 ≤ m) (hh : 0 ≤ h) (ht : h ≤ t) : cnt m h t = cnt (m - 1) h t + (if t + 1 - m < h + 1 then t + 1 - m else h + 1) := by
  unfold cnt
  by_cases q : t - h < m
  · rw [if_pos q, if_pos (show t + 1 - m < h + 1 by omega)]
    obtain ⟨k, hk⟩ := tri m
    obtain ⟨d, hd⟩ : ∃ d, d = t - h := ⟨_, rfl⟩
    obtain ⟨j, hj⟩ := tri d
    by_cases q2 : t - h < m - 1
    · rw [if_pos q2, ← hd]
      rw [show m - 1 + 1 = m by omega]
      have x1 : m * (m + 1) - d * (d + 1) = 2 * (k + m - j - d) := by
        simp only [Int.mul_add, Int.mul_one, hk, hj]
        omega
      have x2 : (m - 1) * m - d * (d + 1) = 2 * (k - j - d) := by
        simp only [Int.sub_mul, Int.mul_add, Int.mul_one, Int.one_mul, hk, hj]
        omega
      rw [x1, x2, Int.mul_ediv_cancel_left _ (by decide), Int.mul_ediv_cancel_left _ (by decide)]
      have x3 : (m - d) * (t + 1) = (m - 1 - d) * (t + 1) + (t + 1) := by
        rw [show m - d = (m - 1 - d) + 1 by omega, Int.add_mul, Int.one_mul]
      omega
    · rw [if_neg q2]
      have em : m = d + 1 := by omega
      rw [← hd, em]
      rw [show d + 1 - 1 = d by omega, show d + 1 - d = 1 by omega]
      have x1 : (d + 1) * (d + 1 + 1) - d * (d + 1) = 2 * (d + 1) := by
        simp only [Int.add_mul, Int.mul_add, Int.mul_one, Int.one_mul, hj]
        omega
      rw [x1, Int.mul_ediv_cancel_left _ (by decide), Int.sub_self, Int.sub_self, Int.zero_mul, Int.one_mul]
      omega
  · rw [if_neg q, if_neg (show ¬ t - h < m - 1 by omega), if_neg (show ¬ t + 1 - m < h + 1 by omega), Int.sub_self, Int.sub_self, Int.sub_self, Int.sub_self, Int.zero_mul]
    have x3 : m * (h + 1) = (m - 1) * (h + 1) + (h + 1) := by
      conv => lhs; rw [show m = (m - 1) + 1 by omega, Int.add_mul, Int.one_mul]
    omega
/-- one row more: by the others -/
theorem cnt_h {m h t : Int} (hm : 0 ≤ m) (hh : 1 ≤ h) (ht : h ≤ t) : cnt m h t = cnt m (h - 1) t + (if t - h < m then t - h else m) := by
  unfold cnt
  rw [show t - (h - 1) = t - h + 1 by omega, show h - 1 + 1 = h by omega]
  obtain ⟨d, hd⟩ : ∃ d, d = t - h := ⟨_, rfl⟩
  rw [← hd]
  by_cases q : d < m
  · rw [if_pos q]
    have e : (if d + 1 < m then d + 1 else m) = d + 1 := by split <;> omega
    rw [e]
    obtain ⟨k, hk⟩ := tri m
    obtain ⟨j, hj⟩ := tri d
    have x1 : m * (m + 1) - d * (d + 1) = 2 * (k + m - j - d) := by
      simp only [Int.mul_add, Int.mul_one, hk, hj]
      omega
    have x2 : m * (m + 1) - (d + 1) * (d + 1 + 1) = 2 * (k + m - j - d - d - 1) := by
      simp only [Int.add_mul, Int.mul_add, Int.mul_one, Int.one_mul, hk, hj]
      omega
    rw [x1, x2, Int.mul_ediv_cancel_left _ (by decide), Int.mul_ediv_cancel_left _ (by decide)]
    have x3 : (m - d) * (t + 1) = (m - (d + 1)) * (t + 1) + (t + 1) := by
      rw [show m - d = (m - (d + 1)) + 1 by omega, Int.add_mul, Int.one_mul]
    have x4 : d * (h + 1) = d * h + d := by rw [Int.mul_add, Int.mul_one]
    have x5 : (d + 1) * h = d * h + h := by rw [Int.add_mul, Int.one_mul]
    omega
  · rw [if_neg q, if_neg (show ¬ d + 1 < m by omega)]
    have x4 : m * (h + 1) = m * h + m := by rw [Int.mul_add, Int.mul_one]
    omega
theorem cnt_h0 {m t : Int} (hm : 0 ≤ m) (ht : 0 ≤ t) (hmt : m ≤ t + 1) : cnt m 0 t = (if t < m then t else m) := by
  unfold cnt
  rw [Int.sub_zero]
  by_cases q : t < m
  · rw [if_pos q]
    have em : m = t + 1 := by omega
    subst em
    obtain ⟨j, hj⟩ := tri t
    have x1 : (t + 1) * (t + 1 + 1) - t * (t + 1) = 2 * (t + 1) := by
      simp only [Int.add_mul, Int.mul_add, Int.mul_one, Int.one_mul, hj]
      omega
    rw [x1, Int.mul_ediv_cancel_left _ (by decide), show t + 1 - t = 1 by omega, Int.one_mul]
    omega
  · rw [if_neg q, Int.sub_self, Int.sub_self, Int.zero_mul]
    omega
/-! ranges -/
def rngI (lo : Int) (n : Nat) : List Int := (List.range n).map fun i => lo + (i : Nat)
theorem rngL_I (lo : Int) (n : Nat) : rngL lo n = ((rngI lo n).map PyData.int).map Va.d := by
  unfold rngL rngI
  rw [List.map_map, List.map_map]
  rfl
theorem rngI_succ (lo : Int) (n : Nat) : rngI lo (n + 1) = rngI lo n ++ [lo + (n : Nat)] := by
  unfold rngI
  rw [List.range_succ, List.map_append]
  rfl
theorem rngI_cons (lo : Int) (n : Nat) : rngI lo (n + 1) = lo :: rngI (lo + 1) n := by
  unfold rngI
  rw [List.range_succ_eq_map, List.map_cons, List.map_map]
  congr 1
  · simp
  · apply List.map_congr_left
    intro i _
    show lo + ((i + 1 : Nat) : Int) = lo + 1 + (i : Nat)
    omega
theorem rngI_len (lo : Int) (n : Nat) : (rngI lo n).length = n := by
  unfold rngI
  rw [List.length_map, List.length_range]
theorem rngI_mem {lo x : Int} {n : Nat} (h : x ∈ rngI lo n) : lo ≤ x ∧ x < lo + n := by
  unfold rngI at h
  obtain ⟨i, hi, rfl⟩ := List.mem_map.mp h
  have := List.mem_range.mp hi
  omega
/-- how many of a range lie at or below c -/
theorem cnt_le (c lo : Int) : ∀ n : Nat, (((rngI lo n).filter fun x => decide (x ≤ c)).length : Int) = if c + 1 - lo < 0 then 0 else if c + 1 - lo < n then c + 1 - lo else n
  | 0 => by
    show ((0 : Nat) : Int) = _
    split
    · rfl
    · split <;> omega
  | n + 1 => by
    have ih := cnt_le c lo n
    rw [rngI_succ, List.filter_append, List.length_append]
    by_cases q : lo + (n : Nat) ≤ c
    · rw [show ([lo + (n : Nat)].filter fun x => decide (x ≤ c)) = [lo + (n : Nat)] by simp [q]]
      simp only [List.length_cons, List.length_nil]
      split at ih <;> split <;> (try split at ih) <;> (try split) <;> omega
    · rw [show ([lo + (n : Nat)].filter fun x => decide (x ≤ c)) = [] by simp [q]]
      simp only [List.length_nil]
      split at ih <;> split <;> (try split at ih) <;> (try split) <;> omega
end K44

set_option maxHeartbeats 4000000
namespace K44
open PySem PySem.Spec PyProof.Rows L2 Vi
/-- goes wrong -/
def wr (gc : Bool) (vc : Nat) (l r : Int) : Bool := decide (cv gc vc l < cv gc vc r) != decide (l < r)
def row (gc : Bool) (vc : Nat) (l : Int) (rs : List Int) : List PD := (rs.filter (wr gc vc l)).map fun r => .tuple [.int l, .int r]
theorem ne_bb {x y : Bool} {st : Sto} : oNe (.d (.bool x)) (.d (.bool y)) st = some (.d (.bool (x != y)), st) := by
  cases x <;> cases y <;> kernel_rfl
theorem cv_held {g : Bool} {v : Nat} {x : Int} (h1 : lo g v ≤ x) (h2 : x ≤ hi g v) : cv g v x = x := by
  show (x - lo g v) % 2 ^ v + lo g v = x
  have h2 : x ≤ lo g v + 2 ^ v - 1 := h2
  rw [Int.emod_eq_of_lt (by omega) (by omega)]
  omega
theorem cv_neg {v : Nat} {x : Int} (h1 : x < 0) (h2 : -2 ^ v ≤ x) : cv false v x = x + 2 ^ v := by
  show (x - lo false v) % 2 ^ v + lo false v = _
  rw [loF, Int.sub_zero, Int.add_zero]
  have e : x = (x + 2 ^ v) + 2 ^ v * (-1) := by omega
  conv => lhs; rw [e]
  rw [Int.add_mul_emod_self_left, Int.emod_eq_of_lt (by omega) (by omega)]
theorem row_nil {gc : Bool} {vc : Nat} {l : Int} {rs : List Int} (h : ∀ r ∈ rs, wr gc vc l r = false) : row gc vc l rs = [] := by
  unfold row
  rw [List.filter_eq_nil_iff.mpr (fun r hr => by rw [h r hr]; decide)]
  rfl
theorem all_nil {gc : Bool} {vc : Nat} {ls rs : List Int} (h : ∀ l ∈ ls, ∀ r ∈ rs, wr gc vc l r = false) : ls.flatMap (fun l => row gc vc l rs) = [] := by
  induction ls with
  | nil => rfl
  | cons l ls ih =>
    rw [List.flatMap_cons, row_nil (h l List.mem_cons_self), ih fun l' hl => h l' (List.mem_cons_of_mem _ hl)]
    rfl
/-- held by the common kind: nothing goes wrong -/
theorem wr_held {g : Bool} {v : Nat} {l r : Int} (h1 : lo g v ≤ l) (h2 : l ≤ hi g v) (h3 : lo g v ≤ r) (h4 : r ≤ hi g v) : wr g v l r = false := by
  unfold wr
  rw [cv_held h1 h2, cv_held h3 h4, bne_self_eq_false]
theorem row_len {gc : Bool} {vc : Nat} {l : Int} {rs : List Int} : (row gc vc l rs).length = (rs.filter (wr gc vc l)).length := by
  unfold row
  rw [List.length_map]
/-- the first is signed: wrong where negative -/
theorem wr_1 {v : Nat} {l r : Int} (h1 : l < 0) (h2 : -2 ^ v ≤ l) (h3 : 0 ≤ r) (h4 : r ≤ 2 ^ v - 1) : wr false v l r = decide (r ≤ l + 2 ^ v) := by
  unfold wr
  rw [cv_neg h1 h2, cv_held (show lo false v ≤ r from h3) (by rw [hiF]; exact h4)]
  by_cases q : l + 2 ^ v < r
  · rw [decide_eq_true q, decide_eq_true (show l < r by omega), decide_eq_false (by omega)]
    rfl
  · rw [decide_eq_false q, decide_eq_true (show l < r by omega), decide_eq_true (by omega)]
    rfl
theorem wr_2 {v : Nat} {l r : Int} (h1 : r < 0) (h2 : -2 ^ v ≤ r) (h3 : 0 ≤ l) (h4 : l ≤ 2 ^ v - 1) : wr false v l r = decide (l - (2 ^ v - 1) ≤ r) := by
  unfold wr
  rw [cv_neg h1 h2, cv_held (show lo false v ≤ l from h3) (by rw [hiF]; exact h4)]
  by_cases q : l < r + 2 ^ v
  · rw [decide_eq_true q, decide_eq_false (show ¬ l < r by omega), decide_eq_true (by omega)]
    rfl
  · rw [decide_eq_false q, decide_eq_false (show ¬ l < r by omega), decide_eq_false (by omega)]
    rfl
theorem cnt_in (A B lo : Int) : ∀ n : Nat, (((rngI lo n).filter fun x => decide (A ≤ x) && decide (x ≤ B)).length : Int) = if (if B < lo + n then B + 1 else lo + n) - (if A < lo then lo else A) < 0 then 0 else (if B < lo + n then B + 1 else lo + n) - (if A < lo then lo else A)
  | 0 => by
    show ((0 : Nat) : Int) = _
    repeat' split
    all_goals omega
  | n + 1 => by
    have ih := cnt_in A B lo n
    rw [rngI_succ, List.filter_append, List.length_append]
    by_cases q : A ≤ lo + (n : Nat) ∧ lo + (n : Nat) ≤ B
    · rw [show ([lo + (n : Nat)].filter fun x => decide (A ≤ x) && decide (x ≤ B)) = [lo + (n : Nat)] by simp [q]]
      simp only [List.length_cons, List.length_nil]
      repeat' (first | split at ih | split)
      all_goals omega
    · rw [show ([lo + (n : Nat)].filter fun x => decide (A ≤ x) && decide (x ≤ B)) = [] by
        by_cases q1 : A ≤ lo + (n : Nat)
        · have q2 : ¬ lo + (n : Nat) ≤ B := fun h => q ⟨q1, h⟩
          simp [q2]
        · simp [q1]]
      simp only [List.length_nil]
      repeat' (first | split at ih | split)
      all_goals omega
/-- the pairs by trying, the first signed -/
theorem tried_1 {v : Nat} {h : Int} (hh : 0 ≤ h) (ht : h ≤ 2 ^ v - 1) (p : Nat) (hp : (p : Int) ≤ 2 ^ v) : ∀ k : Nat, (k : Int) ≤ 2 ^ v → (((rngI (-(k : Int)) (k + p)).flatMap fun l => row false v l (rngI 0 (h + 1).toNat)).length : Int) = cnt k h (2 ^ v - 1 + 1)
  | 0, _ => by
    have pp := p2p v
    rw [all_nil fun l hl r hr => ?_]
    · rw [show ((0 : Nat) : Int) = 0 from rfl, cnt_0 hh (by omega)]
      rfl
    · have a := rngI_mem hl
      have b := rngI_mem hr
      exact wr_held (by rw [loF]; omega) (by rw [hiF]; omega) (by rw [loF]; omega) (by rw [hiF]; omega)
  | k + 1, hk => by
    have pp := p2p v
    have ih := tried_1 hh ht p hp k (by omega)
    rw [show k + 1 + p = (k + p) + 1 by omega, rngI_cons, List.flatMap_cons, List.length_append, row_len]
    rw [show -((k + 1 : Nat) : Int) + 1 = -(k : Int) by omega]
    rw [List.filter_congr (q := fun x => decide (x ≤ -((k + 1 : Nat) : Int) + 2 ^ v)) (fun r hr => by
      have b := rngI_mem hr
      exact wr_1 (by omega) (by omega) (by omega) (by omega))]
    have c := cnt_le (-((k + 1 : Nat) : Int) + 2 ^ v) 0 (h + 1).toNat
    rw [cnt_m (by omega) hh (by omega), show (((k + 1 : Nat) : Int)) - 1 = k by omega, ← ih]
    rw [Int.natCast_add, c]
    have e : ((h + 1).toNat : Int) = h + 1 := by omega
    rw [e]
    repeat' split
    all_goals omega
theorem tried_2 {v m : Nat} (hm : (m : Int) ≤ 2 ^ v - 1) (p : Nat) (hp : (p : Int) ≤ 2 ^ v) : ∀ k : Nat, (k : Int) ≤ 2 ^ v - 1 → (((rngI 0 (k + 1)).flatMap fun l => row false v l (rngI (-(m : Int)) (m + p))).length : Int) = cnt m k (2 ^ v - 1) := by
  have pp := p2p v
  have one : ∀ k : Nat, (k : Int) ≤ 2 ^ v - 1 → ((row false v (k : Int) (rngI (-(m : Int)) (m + p))).length : Int) = if 2 ^ v - 1 - (k : Int) < m then 2 ^ v - 1 - (k : Int) else m := fun k hk => by
    rw [row_len, List.filter_congr (q := fun x => decide ((k : Int) - (2 ^ v - 1) ≤ x) && decide (x ≤ -1)) (fun r hr => by
      have b := rngI_mem hr
      by_cases n : r < 0
      · rw [wr_2 n (by omega) (by omega) (by omega), decide_eq_true (show r ≤ -1 by omega), Bool.and_true]
      · rw [wr_held (by rw [loF]; omega) (by rw [hiF]; omega) (by rw [loF]; omega) (by rw [hiF]; omega), decide_eq_false (show ¬ r ≤ -1 by omega), Bool.and_false])]
    rw [cnt_in]
    repeat' split
    all_goals omega
  intro k
  induction k with
  | zero =>
    intro hk
    rw [show rngI 0 (0 + 1) = [((0 : Int) + ((0 : Nat) : Int))] from rfl]
    rw [List.flatMap_cons, List.flatMap_nil, List.append_nil]
    have o := one 0 hk
    rw [show (0 : Int) + ((0 : Nat) : Int) = ((0 : Nat) : Int) by omega, o]
    rw [show ((0 : Nat) : Int) = 0 from rfl, cnt_h0 (by omega) (by omega) (by omega), Int.sub_zero]
  | succ k ih =>
    intro hk
    rw [rngI_succ, List.flatMap_append, List.length_append, Int.natCast_add, ih (by omega), List.flatMap_cons, List.flatMap_nil, List.append_nil]
    rw [show (0 : Int) + ((k + 1 : Nat) : Int) = ((k + 1 : Nat) : Int) by omega, one (k + 1) hk]
    rw [cnt_h (h := ((k + 1 : Nat) : Int)) (by omega) (by omega) (by omega), show (((k + 1 : Nat) : Int)) - 1 = k by omega]
end K44

set_option maxHeartbeats 4000000
namespace K44
open PySem PySem.Spec PyProof.Rows L2 Vi
abbrev inB : SS := (xIf (tB (s2 oNe (s2 oLt (sF F__law_into (aCons (sV 0) (aCons (sV 7) (aCons (sV 9) (aNil))))) (sF F__law_into (aCons (sV 0) (aCons (sV 7) (aCons (sV 10) (aNil)))))) (s2 oLt (sV 9) (sV 10)))) (xExp (sMt .lst gApp (sV 8) (aCons (sTup (aCons (sV 9) (aCons (sV 10) (aNil)))) (aNil)))) (xNil))
abbrev outB : SS := (xFor (sRg2 (aCons (sV 5) (aCons (s2 oAdd (sV 6) (sK (.int 1))) (aNil)))) (gN 10) inB)
section
variable {a b c d e : Int} {pl z1 z2 x : Str} {g1 g2 gc : Bool} {v1 v2 vc : Nat}
theorem linto_ok (KC : Kd (wds a b c d e) pl x gc vc) (y : Int) (st : Sto) : F__law_into [.d (sch (wds a b c d e) pl), .d (.str x), .d (.int y)] st = .ok (.d (.int (cv gc vc y))) st := by
  refine dF_pure rfl ?_
  show b__law_into [some (.d (sch (wds a b c d e) pl)), some (.d (.str x)), some (.d (.int y)), none, none] ⟨st.obs, st.n⟩ = _
  have i1 := ix_tupN (st := ⟨st.obs, st.n⟩) (ds := [.int (lo gc vc), .int (hi gc vc)]) (k := 0) rfl
  have pp := p2p vc
  have md := mod_ii (st := ⟨st.obs, st.n⟩) (i := y - lo gc vc) (j := hi gc vc - lo gc vc + 1) (by show 0 < lo gc vc + 2 ^ vc - 1 - lo gc vc + 1; omega)
  have e : hi gc vc - lo gc vc + 1 = 2 ^ vc := by show lo gc vc + 2 ^ vc - 1 - lo gc vc + 1 = _; omega
  rw [e] at md
  obtain ⟨l, hl⟩ : ∃ l, l = lo gc vc := ⟨_, rfl⟩
  obtain ⟨h, hh⟩ : ∃ h, h = hi gc vc := ⟨_, rfl⟩
  have en := KC.ends
  show _ = Res.ok (Out.rt (.d (.int ((y - lo gc vc) % 2 ^ vc + lo gc vc)))) _
  rw [← hl, ← hh] at en e
  rw [← hl] at md ⊢
  simp only [bind_ok, bindN_ok, toS_ok, lift_some, sK_ap, sV_ap, s2_ap, sF_ap, aNil_ap, aCons_ap, sTup_ap, sLst_ap, sLstM_ap, sNeg_ap, sIf_ap, sCl_ap, sKget_ap, sKgetI_ap, sKin_ap, sKnin_ap, sIsi_ap, sCh_ap, sFK_ap, sMt_ap, sNot_ap, sAnd_ap, sOr_ap, tB_ap, tT_ap, tNot_ap, tAnd_ap, tOr_ap, oNo_ap, oSo_ap, sSl_ap, sIt_ap, sEnm_ap, sRg1_ap, sRg2_ap, xSeq_ap, xNil_ap, xRet_ap, xRetN_ap, xExp_ap, xSet_ap, xAsg_ap, xPar_ap, xPar3_ap, xIf_ap, xPut_ap, xFor_ap, gN_ap, gsN_ap, gsC_ap, gT_ap, add_ii, sub_ii, lt_ii, le_ii, gt_ii, ge_ii, eq_ii, ne_ii, eq_ss, ne_ss, mkT_ap, allD_nil, allD_d, items_tup, items_lst, walk_lst, walk_tup, walk_s, froz_tup, froz_lst, tru_bl, tru_int, tru_no, len_tup, len_lst, len_s, min_ii, max_ii, int_bl, int_in, tuple_tup, tuple_lst, tyN_int, tyN_tup, tyN_str, kit_ib, kit_ii, kit_tt, kit_st, kit_it, enum_nil, enum_cons, for_nil, List.getElem?_cons_zero, List.getElem?_cons_succ, List.set_cons_zero, List.set_cons_succ, List.length_cons, List.length_nil, Option.map_some, Option.bind_some, Bool.not_true, Bool.not_false, decide_true, decide_false, decide_eq_true_eq, if_true, if_false, Bool.false_eq_true, Nat.reduceAdd, Nat.reduceSub, Nat.reduceLeDiff, Nat.reduceMul, Nat.reduceLT, Nat.reduceEqDiff, reduceIte, Bool.true_eq_false, and_true, true_and, and_self, Option.isSome_some, Option.isSome_none, List.append_nil, List.nil_append, List.cons_append, Nat.zero_add, Nat.add_zero, eq_self, Int.cast_ofNat_Int, Int.reduceEq, Int.reduceNe, Int.reduceLT, Int.reduceLE, Int.reduceNeg, Int.reduceAdd, Int.reduceSub, Int.reduceMul, b__law_into, en, e, md, List.map_cons, List.map_nil]
theorem inner_ok (KC : Kd (wds a b c d e) pl x gc vc) (l : Int) (t : Sto) (w1 w2 w3 w4 w5 w6 : Option Va) : ∀ (rs : List Int) (ds : List PD) (w : Option Va), ds.length + rs.length ≤ sizeLine → ∃ w', forL (gN 10) inB ((rs.map PyData.int).map Va.d) [some (.d (sch (wds a b c d e) pl)), w1, w2, w3, w4, w5, w6, some (.d (.str x)), some (.r t.n), some (.d (.int l)), w] (t.push (.l (ds.map .d))) = .ok (.nx [some (.d (sch (wds a b c d e) pl)), w1, w2, w3, w4, w5, w6, some (.d (.str x)), some (.r t.n), some (.d (.int l)), w']) (t.push (.l ((ds ++ row gc vc l rs).map .d)))
  | [], ds, w, _ => ⟨w, by
    rw [show row gc vc l [] = [] from rfl, List.append_nil]
    rfl⟩
  | r :: rs, ds, w, h => by
    have hc : ds.length < sizeLine := by simp only [List.length_cons] at h; omega
    have A : At (t.push (.l (ds.map .d))) t.n (ds.map .d) := At.push
    have ap := appD_at (d := .tuple [.int l, .int r]) A hc
    rw [push_put] at ap
    have ty := tyo_at A
    have z2 : 2 ≤ sizeLine := by decide
    have sm := same_lst A
    by_cases q : wr gc vc l r = true
    · obtain ⟨w', k⟩ := inner_ok KC l t w1 w2 w3 w4 w5 w6 rs (ds ++ [PyData.tuple [.int l, .int r]]) (some (.d (.int r))) (by simp only [List.length_append, List.length_cons, List.length_nil] at h ⊢; omega)
      refine ⟨w', (forL_nx (e1 := [some (.d (sch (wds a b c d e) pl)), w1, w2, w3, w4, w5, w6, some (.d (.str x)), some (.r t.n), some (.d (.int l)), some (.d (.int r))]) rfl (e2 := [some (.d (sch (wds a b c d e) pl)), w1, w2, w3, w4, w5, w6, some (.d (.str x)), some (.r t.n), some (.d (.int l)), some (.d (.int r))]) (s := t.push (.l ((ds ++ [PyData.tuple [.int l, .int r]]).map .d))) ?_).trans ?_⟩
      · have q' : (decide (cv gc vc l < cv gc vc r) != decide (l < r)) = true := q
        generalize t.push (.l (ds.map .d)) = s at *
        simp only [bind_ok, bindN_ok, toS_ok, lift_some, sK_ap, sV_ap, s2_ap, sF_ap, aNil_ap, aCons_ap, sTup_ap, sLst_ap, sLstM_ap, sNeg_ap, sIf_ap, sCl_ap, sKget_ap, sKgetI_ap, sKin_ap, sKnin_ap, sIsi_ap, sCh_ap, sFK_ap, sMt_ap, sNot_ap, sAnd_ap, sOr_ap, tB_ap, tT_ap, tNot_ap, tAnd_ap, tOr_ap, oNo_ap, oSo_ap, sSl_ap, sIt_ap, sEnm_ap, sRg1_ap, sRg2_ap, xSeq_ap, xNil_ap, xRet_ap, xRetN_ap, xExp_ap, xSet_ap, xAsg_ap, xPar_ap, xPar3_ap, xIf_ap, xPut_ap, xFor_ap, gN_ap, gsN_ap, gsC_ap, gT_ap, add_ii, sub_ii, lt_ii, le_ii, gt_ii, ge_ii, eq_ii, ne_ii, eq_ss, ne_ss, mkT_ap, allD_nil, allD_d, items_tup, items_lst, walk_lst, walk_tup, walk_s, froz_tup, froz_lst, tru_bl, tru_int, tru_no, len_tup, len_lst, len_s, min_ii, max_ii, int_bl, int_in, tuple_tup, tuple_lst, tyN_int, tyN_tup, tyN_str, kit_ib, kit_ii, kit_tt, kit_st, kit_it, enum_nil, enum_cons, for_nil, List.getElem?_cons_zero, List.getElem?_cons_succ, List.set_cons_zero, List.set_cons_succ, List.length_cons, List.length_nil, Option.map_some, Option.bind_some, Bool.not_true, Bool.not_false, decide_true, decide_false, decide_eq_true_eq, if_true, if_false, Bool.false_eq_true, Nat.reduceAdd, Nat.reduceSub, Nat.reduceLeDiff, Nat.reduceMul, Nat.reduceLT, Nat.reduceEqDiff, reduceIte, Bool.true_eq_false, and_true, true_and, and_self, Option.isSome_some, Option.isSome_none, List.append_nil, List.nil_append, List.cons_append, Nat.zero_add, Nat.add_zero, eq_self, Int.cast_ofNat_Int, Int.reduceEq, Int.reduceNe, Int.reduceLT, Int.reduceLE, Int.reduceNeg, Int.reduceAdd, Int.reduceSub, Int.reduceMul, inB, linto_ok KC, ne_bb, q', z2, sm, ap]
      · rw [k]
        unfold row
        rw [List.filter_cons_of_pos q, List.map_cons, List.append_assoc]
        rfl
    · obtain ⟨w', k⟩ := inner_ok KC l t w1 w2 w3 w4 w5 w6 rs ds (some (.d (.int r))) (by simp only [List.length_cons] at h; omega)
      refine ⟨w', (forL_nx (e1 := [some (.d (sch (wds a b c d e) pl)), w1, w2, w3, w4, w5, w6, some (.d (.str x)), some (.r t.n), some (.d (.int l)), some (.d (.int r))]) rfl (e2 := [some (.d (sch (wds a b c d e) pl)), w1, w2, w3, w4, w5, w6, some (.d (.str x)), some (.r t.n), some (.d (.int l)), some (.d (.int r))]) (s := t.push (.l (ds.map .d))) ?_).trans ?_⟩
      · have q' : (decide (cv gc vc l < cv gc vc r) != decide (l < r)) = false := by
          have : wr gc vc l r = false := by cases hw : wr gc vc l r <;> first | rfl | exact absurd hw q
          exact this
        generalize t.push (.l (ds.map .d)) = s at *
        simp only [bind_ok, bindN_ok, toS_ok, lift_some, sK_ap, sV_ap, s2_ap, sF_ap, aNil_ap, aCons_ap, sTup_ap, sLst_ap, sLstM_ap, sNeg_ap, sIf_ap, sCl_ap, sKget_ap, sKgetI_ap, sKin_ap, sKnin_ap, sIsi_ap, sCh_ap, sFK_ap, sMt_ap, sNot_ap, sAnd_ap, sOr_ap, tB_ap, tT_ap, tNot_ap, tAnd_ap, tOr_ap, oNo_ap, oSo_ap, sSl_ap, sIt_ap, sEnm_ap, sRg1_ap, sRg2_ap, xSeq_ap, xNil_ap, xRet_ap, xRetN_ap, xExp_ap, xSet_ap, xAsg_ap, xPar_ap, xPar3_ap, xIf_ap, xPut_ap, xFor_ap, gN_ap, gsN_ap, gsC_ap, gT_ap, add_ii, sub_ii, lt_ii, le_ii, gt_ii, ge_ii, eq_ii, ne_ii, eq_ss, ne_ss, mkT_ap, allD_nil, allD_d, items_tup, items_lst, walk_lst, walk_tup, walk_s, froz_tup, froz_lst, tru_bl, tru_int, tru_no, len_tup, len_lst, len_s, min_ii, max_ii, int_bl, int_in, tuple_tup, tuple_lst, tyN_int, tyN_tup, tyN_str, kit_ib, kit_ii, kit_tt, kit_st, kit_it, enum_nil, enum_cons, for_nil, List.getElem?_cons_zero, List.getElem?_cons_succ, List.set_cons_zero, List.set_cons_succ, List.length_cons, List.length_nil, Option.map_some, Option.bind_some, Bool.not_true, Bool.not_false, decide_true, decide_false, decide_eq_true_eq, if_true, if_false, Bool.false_eq_true, Nat.reduceAdd, Nat.reduceSub, Nat.reduceLeDiff, Nat.reduceMul, Nat.reduceLT, Nat.reduceEqDiff, reduceIte, Bool.true_eq_false, and_true, true_and, and_self, Option.isSome_some, Option.isSome_none, List.append_nil, List.nil_append, List.cons_append, Nat.zero_add, Nat.add_zero, eq_self, Int.cast_ofNat_Int, Int.reduceEq, Int.reduceNe, Int.reduceLT, Int.reduceLE, Int.reduceNeg, Int.reduceAdd, Int.reduceSub, Int.reduceMul, inB, linto_ok KC, ne_bb, q']
      · rw [k]
        unfold row
        rw [List.filter_cons_of_neg q]
end
end K44

set_option maxHeartbeats 4000000
namespace K44
open PySem PySem.Spec PyProof.Rows L2 Vi
section
variable {a b c d e : Int} {pl z1 z2 x : Str} {g1 g2 gc : Bool} {v1 v2 vc : Nat}
theorem outer_ok (KC : Kd (wds a b c d e) pl x gc vc) {m h : Int} (bm : -(2 ^ 62) ≤ m ∧ m < 2 ^ 62) (bh : -(2 ^ 62) ≤ h + 1 ∧ h + 1 < 2 ^ 62) (bd : (h + 1 - m).toNat ≤ 32) (t : Sto) (w1 w2 w3 w4 : Option Va) : ∀ (ls : List Int) (ds : List PD) (w9 w10 : Option Va), ds.length + ls.length * 32 ≤ sizeLine → ∃ w9' w10', forL (gN 9) outB ((ls.map PyData.int).map Va.d) [some (.d (sch (wds a b c d e) pl)), w1, w2, w3, w4, some (.d (.int m)), some (.d (.int h)), some (.d (.str x)), some (.r t.n), w9, w10] (t.push (.l (ds.map .d))) = .ok (.nx [some (.d (sch (wds a b c d e) pl)), w1, w2, w3, w4, some (.d (.int m)), some (.d (.int h)), some (.d (.str x)), some (.r t.n), w9', w10']) (t.push (.l ((ds ++ ls.flatMap fun l => row gc vc l (rngI m (h + 1 - m).toNat)).map .d)))
  | [], ds, w9, w10, _ => ⟨w9, w10, by
    rw [List.flatMap_nil, List.append_nil]
    rfl⟩
  | l :: ls, ds, w9, w10, hz => by
    simp only [List.length_cons, Nat.add_mul, Nat.one_mul] at hz
    obtain ⟨rs, hrs⟩ : ∃ rs, rs = rngI m (h + 1 - m).toNat := ⟨_, rfl⟩
    have rl : rs.length ≤ 32 := by rw [hrs, rngI_len]; exact bd
    have fl : (row gc vc l rs).length ≤ 32 := by rw [row_len]; exact Nat.le_trans (List.length_filter_le _ _) rl
    obtain ⟨w', k⟩ := inner_ok KC l t w1 w2 w3 w4 (some (.d (.int m))) (some (.d (.int h))) rs ds w10 (by omega)
    obtain ⟨w9', w10', k2⟩ := outer_ok KC bm bh bd t w1 w2 w3 w4 ls (ds ++ row gc vc l rs) (some (.d (.int l))) w' (by rw [List.length_append]; omega)
    refine ⟨w9', w10', (forL_nx (e1 := [some (.d (sch (wds a b c d e) pl)), w1, w2, w3, w4, some (.d (.int m)), some (.d (.int h)), some (.d (.str x)), some (.r t.n), some (.d (.int l)), w10]) rfl (e2 := [some (.d (sch (wds a b c d e) pl)), w1, w2, w3, w4, some (.d (.int m)), some (.d (.int h)), some (.d (.str x)), some (.r t.n), some (.d (.int l)), w']) (s := t.push (.l ((ds ++ row gc vc l rs).map .d))) ?_).trans ?_⟩
    · have rg := rngL_I m (h + 1 - m).toNat
      rw [← hrs] at rg
      rw [← k]
      generalize t.push (.l (ds.map .d)) = s at *
      generalize t.n = n at *
      obtain ⟨q1, q2⟩ := bm
      obtain ⟨q3, q4⟩ := bh
      simp only [bind_ok, bindN_ok, toS_ok, lift_some, sK_ap, sV_ap, s2_ap, sF_ap, aNil_ap, aCons_ap, sTup_ap, sLst_ap, sLstM_ap, sNeg_ap, sIf_ap, sCl_ap, sKget_ap, sKgetI_ap, sKin_ap, sKnin_ap, sIsi_ap, sCh_ap, sFK_ap, sMt_ap, sNot_ap, sAnd_ap, sOr_ap, tB_ap, tT_ap, tNot_ap, tAnd_ap, tOr_ap, oNo_ap, oSo_ap, sSl_ap, sIt_ap, sEnm_ap, sRg1_ap, sRg2_ap, xSeq_ap, xNil_ap, xRet_ap, xRetN_ap, xExp_ap, xSet_ap, xAsg_ap, xPar_ap, xPar3_ap, xIf_ap, xPut_ap, xFor_ap, gN_ap, gsN_ap, gsC_ap, gT_ap, add_ii, sub_ii, lt_ii, le_ii, gt_ii, ge_ii, eq_ii, ne_ii, eq_ss, ne_ss, mkT_ap, allD_nil, allD_d, items_tup, items_lst, walk_lst, walk_tup, walk_s, froz_tup, froz_lst, tru_bl, tru_int, tru_no, len_tup, len_lst, len_s, min_ii, max_ii, int_bl, int_in, tuple_tup, tuple_lst, tyN_int, tyN_tup, tyN_str, kit_ib, kit_ii, kit_tt, kit_st, kit_it, enum_nil, enum_cons, for_nil, List.getElem?_cons_zero, List.getElem?_cons_succ, List.set_cons_zero, List.set_cons_succ, List.length_cons, List.length_nil, Option.map_some, Option.bind_some, Bool.not_true, Bool.not_false, decide_true, decide_false, decide_eq_true_eq, if_true, if_false, Bool.false_eq_true, Nat.reduceAdd, Nat.reduceSub, Nat.reduceLeDiff, Nat.reduceMul, Nat.reduceLT, Nat.reduceEqDiff, reduceIte, Bool.true_eq_false, and_true, true_and, and_self, Option.isSome_some, Option.isSome_none, List.append_nil, List.nil_append, List.cons_append, Nat.zero_add, Nat.add_zero, eq_self, Int.cast_ofNat_Int, Int.reduceEq, Int.reduceNe, Int.reduceLT, Int.reduceLE, Int.reduceNeg, Int.reduceAdd, Int.reduceSub, Int.reduceMul, outB, q1, q2, q3, q4, rg]
    · rw [k2, List.flatMap_cons, ← hrs, List.append_assoc]
end
end K44

set_option maxHeartbeats 4000000
namespace K44
open PySem PySem.Spec PyProof.Rows L2 Vi
def Pr (d : PD) : Prop := ∃ l r : Int, d = .tuple [.int l, .int r]
theorem pr_shape : ∀ {ds : List PD}, (∀ d ∈ ds, Pr d) → PyData.canLayAll0 ds = true ∧ PyData.depthAll ds ≤ 10
  | [], _ => ⟨rfl, by show 0 ≤ 10; decide⟩
  | d :: ds, h => by
    obtain ⟨i1, i2⟩ := pr_shape (ds := ds) fun x hx => h x (List.mem_cons_of_mem _ hx)
    obtain ⟨l, r, rfl⟩ := h d List.mem_cons_self
    constructor
    · show (PyData.canLay0 (.tuple [.int l, .int r]) && PyData.canLayAll0 ds) = true
      rw [i1]
      rfl
    · show max (PyData.depth (.tuple [.int l, .int r])) (PyData.depthAll ds) ≤ 10
      exact Nat.max_le.mpr ⟨Nat.le_of_ble_eq_true rfl, i2⟩
theorem ne_nil {s : Sto} {n : Nat} {ds : List PD} (A : At s n (ds.map .d)) (h : ∀ d ∈ ds, Pr d) : oNe (.r n) (.d (.list [])) s = some (.d (.bool (!ds.isEmpty)), s) := by
  have p : peek (.r n) s = some (.list ds) := by
    unfold peek
    dsimp only
    rw [show s.obs[n]? = some (some (.l (ds.map .d))) from A]
    show (allD (ds.map Va.d)).map PyData.list = _
    rw [allD_map]
    rfl
  obtain ⟨i1, i2⟩ := pr_shape h
  have sh : SeqAt.shaped (.list ds) = true := by
    unfold SeqAt.shaped
    rw [show PyData.canLay0 (.list ds) = PyData.canLayAll0 ds from rfl, i1, Bool.true_and]
    refine decide_eq_true ?_
    have : PyData.depth (.list ds) ≤ 1 + PyData.depthAll ds := by
      show PyData.depth (.list ds) ≤ _
      simp only [PyData.depth]
      omega
    omega
  show (match peek (.r n) s, peek (.d (.list [])) s with
  | some a, some b => if SeqAt.shaped a = true ∧ SeqAt.shaped b = true then some (Va.d (.bool (!PyData.eqv a b)), s) else none
  | _, _ => none) = _
  rw [p]
  show (if SeqAt.shaped (.list ds) = true ∧ SeqAt.shaped (.list []) = true then some (Va.d (.bool (!PyData.eqv (.list ds) (.list []))), s) else none) = _
  rw [if_pos ⟨sh, rfl⟩]
  cases ds <;> rfl
theorem len_at {s : Sto} {n : Nat} {xs : List Va} (A : At s n xs) : cLen [.r n] s = some (.d (.int (xs.length : Nat)), s) := by
  show (itemsV (.r n) s).map _ = _
  rw [items_at A]
  rfl
theorem row_pr {gc : Bool} {vc : Nat} {ls rs : List Int} : ∀ d ∈ ls.flatMap (fun l => row gc vc l rs), Pr d := fun d hd => by
  obtain ⟨l, _, h⟩ := List.mem_flatMap.mp hd
  obtain ⟨r, _, rfl⟩ := List.mem_map.mp h
  exact ⟨l, r, rfl⟩
def fst (ds : List PD) : PD := match ds with
  | [] => .none
  | d :: _ => d
section
variable {a b c d e : Int} {pl z1 z2 x : Str} {g1 g2 gc : Bool} {v1 v2 vc : Nat}
abbrev found (g1 : Bool) (v1 : Nat) (g2 : Bool) (v2 : Nat) (gc : Bool) (vc : Nat) : List PD := (rngI (lo g1 v1) (hi g1 v1 + 1 - lo g1 v1).toNat).flatMap fun l => row gc vc l (rngI (lo g2 v2) (hi g2 v2 + 1 - lo g2 v2).toNat)
theorem small {g : Bool} {v : Nat} (h0 : 2 ≤ v) (h : v ≤ 5) : -16 ≤ lo g v ∧ hi g v ≤ 31 ∧ lo g v ≤ 0 ∧ 0 ≤ hi g v ∧ (hi g v + 1 - lo g v).toNat ≤ 32 := by
  have e : v = 2 ∨ v = 3 ∨ v = 4 ∨ v = 5 := by omega
  rcases e with rfl | rfl | rfl | rfl <;> cases g <;> decide
theorem tried_ok (K1 : Kd (wds a b c d e) pl z1 g1 v1) (K2 : Kd (wds a b c d e) pl z2 g2 v2) (KC : Kd (wds a b c d e) pl x gc vc) (lc : ∀ st, F__law_common [.d (sch (wds a b c d e) pl), .d (.str z1), .d (.str z2)] st = .ok (.d (.str x)) st) (s1 : v1 ≤ 5) (s2 : v2 ≤ 5) (st : Sto) :
    F__law_tried [.d (sch (wds a b c d e) pl), .d (.str z1), .d (.str z2)] st = .ok (.d (.list [.int (found g1 v1 g2 v2 gc vc).length, fst (found g1 v1 g2 v2 gc vc)])) st := by
  obtain ⟨p1, p2, p3, p4, p5⟩ := small (g := g1) K1.l s1
  obtain ⟨q1, q2, q3, q4, q5⟩ := small (g := g2) K2.l s2
  have E1 := K1.ends
  have E2 := K2.ends
  unfold found
  obtain ⟨l1, hl1⟩ : ∃ l, l = lo g1 v1 := ⟨_, rfl⟩
  obtain ⟨h1, hh1⟩ : ∃ l, l = hi g1 v1 := ⟨_, rfl⟩
  obtain ⟨l2, hl2⟩ : ∃ l, l = lo g2 v2 := ⟨_, rfl⟩
  obtain ⟨h2, hh2⟩ : ∃ l, l = hi g2 v2 := ⟨_, rfl⟩
  simp only [← hl1, ← hh1] at E1 p1 p2 p3 p4 p5 ⊢
  simp only [← hl2, ← hh2] at E2 q1 q2 q3 q4 q5 ⊢
  clear hl1 hh1 hl2 hh2
  have b1 : -(2 ^ 62) ≤ l1 ∧ l1 < 2 ^ 62 := by omega
  have b2 : -(2 ^ 62) ≤ h1 + 1 ∧ h1 + 1 < 2 ^ 62 := by omega
  have c1 : -(2 ^ 62) ≤ l2 ∧ l2 < 2 ^ 62 := by omega
  have c2 : -(2 ^ 62) ≤ h2 + 1 ∧ h2 + 1 < 2 ^ 62 := by omega
  have ll : (rngI l1 (h1 + 1 - l1).toNat).length ≤ 32 := by rw [rngI_len]; exact p5
  have z : sizeLine = 16777216 := by decide
  obtain ⟨u9, u10, run⟩ := outer_ok KC c1 c2 q5 (⟨st.obs, st.n⟩ : Sto) (some (.d (.str z1))) (some (.d (.str z2))) (some (.d (.int l1))) (some (.d (.int h1))) (rngI l1 (h1 + 1 - l1).toNat) [] none none (by rw [z]; simp only [List.length_nil]; omega)
  rw [List.nil_append] at run
  have pr := row_pr (gc := gc) (vc := vc) (ls := rngI l1 (h1 + 1 - l1).toNat) (rs := rngI l2 (h2 + 1 - l2).toNat)
  generalize (rngI l1 (h1 + 1 - l1).toNat).flatMap (fun l => row gc vc l (rngI l2 (h2 + 1 - l2).toNat)) = ds at run pr ⊢
  have rg := rngL_I l1 (h1 + 1 - l1).toNat
  rw [← rg] at run
  have y0 : 0 ≤ sizeLine := by decide
  have y2 : 2 ≤ sizeLine := by decide
  have A : At ((⟨st.obs, st.n⟩ : Sto).push (.l (ds.map .d))) (⟨st.obs, st.n⟩ : Sto).n (ds.map .d) := At.push
  have ln := len_at A
  have nn := ne_nil A pr
  rw [List.length_map] at ln
  have fin : F__law_tried [.d (sch (wds a b c d e) pl), .d (.str z1), .d (.str z2)] st = .ok (.d (.list [.int ds.length, fst ds])) ⟨((⟨st.obs, st.n⟩ : Sto).push (.l (ds.map .d))).obs.take st.n, st.base⟩ := by
    refine dF_rt rfl (s := (⟨st.obs, st.n⟩ : Sto).push (.l (ds.map .d))) ?_ rfl
    show b__law_tried [some (.d (sch (wds a b c d e) pl)), some (.d (.str z1)), some (.d (.str z2)), none, none, none, none, none, none, none, none] ⟨st.obs, st.n⟩ = _
    refine xSeq_nx (e := [some (.d (sch (wds a b c d e) pl)), some (.d (.str z1)), some (.d (.str z2)), some (.d (.int l1)), some (.d (.int h1)), none, none, none, none, none, none]) (s := ⟨st.obs, st.n⟩) (by simp only [bind_ok, bindN_ok, toS_ok, lift_some, sK_ap, sV_ap, s2_ap, sF_ap, aNil_ap, aCons_ap, sTup_ap, sLst_ap, sLstM_ap, sNeg_ap, sIf_ap, sCl_ap, sKget_ap, sKgetI_ap, sKin_ap, sKnin_ap, sIsi_ap, sCh_ap, sFK_ap, sMt_ap, sNot_ap, sAnd_ap, sOr_ap, tB_ap, tT_ap, tNot_ap, tAnd_ap, tOr_ap, oNo_ap, oSo_ap, sSl_ap, sIt_ap, sEnm_ap, sRg1_ap, sRg2_ap, xSeq_ap, xNil_ap, xRet_ap, xRetN_ap, xExp_ap, xSet_ap, xAsg_ap, xPar_ap, xPar3_ap, xIf_ap, xPut_ap, xFor_ap, gN_ap, gsN_ap, gsC_ap, gT_ap, add_ii, sub_ii, lt_ii, le_ii, gt_ii, ge_ii, eq_ii, ne_ii, eq_ss, ne_ss, mkT_ap, allD_nil, allD_d, items_tup, items_lst, walk_lst, walk_tup, walk_s, froz_tup, froz_lst, tru_bl, tru_int, tru_no, len_tup, len_lst, len_s, min_ii, max_ii, int_bl, int_in, tuple_tup, tuple_lst, tyN_int, tyN_tup, tyN_str, kit_ib, kit_ii, kit_tt, kit_st, kit_it, enum_nil, enum_cons, for_nil, List.getElem?_cons_zero, List.getElem?_cons_succ, List.set_cons_zero, List.set_cons_succ, List.length_cons, List.length_nil, Option.map_some, Option.bind_some, Bool.not_true, Bool.not_false, decide_true, decide_false, decide_eq_true_eq, if_true, if_false, Bool.false_eq_true, Nat.reduceAdd, Nat.reduceSub, Nat.reduceLeDiff, Nat.reduceMul, Nat.reduceLT, Nat.reduceEqDiff, reduceIte, Bool.true_eq_false, and_true, true_and, and_self, Option.isSome_some, Option.isSome_none, List.append_nil, List.nil_append, List.cons_append, Nat.zero_add, Nat.add_zero, eq_self, Int.cast_ofNat_Int, Int.reduceEq, Int.reduceNe, Int.reduceLT, Int.reduceLE, Int.reduceNeg, Int.reduceAdd, Int.reduceSub, Int.reduceMul, E1, List.map_cons, List.map_nil]) ?_
    refine xSeq_nx (e := [some (.d (sch (wds a b c d e) pl)), some (.d (.str z1)), some (.d (.str z2)), some (.d (.int l1)), some (.d (.int h1)), some (.d (.int l2)), some (.d (.int h2)), none, none, none, none]) (s := ⟨st.obs, st.n⟩) (by simp only [bind_ok, bindN_ok, toS_ok, lift_some, sK_ap, sV_ap, s2_ap, sF_ap, aNil_ap, aCons_ap, sTup_ap, sLst_ap, sLstM_ap, sNeg_ap, sIf_ap, sCl_ap, sKget_ap, sKgetI_ap, sKin_ap, sKnin_ap, sIsi_ap, sCh_ap, sFK_ap, sMt_ap, sNot_ap, sAnd_ap, sOr_ap, tB_ap, tT_ap, tNot_ap, tAnd_ap, tOr_ap, oNo_ap, oSo_ap, sSl_ap, sIt_ap, sEnm_ap, sRg1_ap, sRg2_ap, xSeq_ap, xNil_ap, xRet_ap, xRetN_ap, xExp_ap, xSet_ap, xAsg_ap, xPar_ap, xPar3_ap, xIf_ap, xPut_ap, xFor_ap, gN_ap, gsN_ap, gsC_ap, gT_ap, add_ii, sub_ii, lt_ii, le_ii, gt_ii, ge_ii, eq_ii, ne_ii, eq_ss, ne_ss, mkT_ap, allD_nil, allD_d, items_tup, items_lst, walk_lst, walk_tup, walk_s, froz_tup, froz_lst, tru_bl, tru_int, tru_no, len_tup, len_lst, len_s, min_ii, max_ii, int_bl, int_in, tuple_tup, tuple_lst, tyN_int, tyN_tup, tyN_str, kit_ib, kit_ii, kit_tt, kit_st, kit_it, enum_nil, enum_cons, for_nil, List.getElem?_cons_zero, List.getElem?_cons_succ, List.set_cons_zero, List.set_cons_succ, List.length_cons, List.length_nil, Option.map_some, Option.bind_some, Bool.not_true, Bool.not_false, decide_true, decide_false, decide_eq_true_eq, if_true, if_false, Bool.false_eq_true, Nat.reduceAdd, Nat.reduceSub, Nat.reduceLeDiff, Nat.reduceMul, Nat.reduceLT, Nat.reduceEqDiff, reduceIte, Bool.true_eq_false, and_true, true_and, and_self, Option.isSome_some, Option.isSome_none, List.append_nil, List.nil_append, List.cons_append, Nat.zero_add, Nat.add_zero, eq_self, Int.cast_ofNat_Int, Int.reduceEq, Int.reduceNe, Int.reduceLT, Int.reduceLE, Int.reduceNeg, Int.reduceAdd, Int.reduceSub, Int.reduceMul, E2, List.map_cons, List.map_nil]) ?_
    refine xSeq_nx (e := [some (.d (sch (wds a b c d e) pl)), some (.d (.str z1)), some (.d (.str z2)), some (.d (.int l1)), some (.d (.int h1)), some (.d (.int l2)), some (.d (.int h2)), some (.d (.str x)), some (.r (⟨st.obs, st.n⟩ : Sto).n), none, none]) (s := (⟨st.obs, st.n⟩ : Sto).push (.l (([] : List PD).map .d))) (by simp only [bind_ok, bindN_ok, toS_ok, lift_some, sK_ap, sV_ap, s2_ap, sF_ap, aNil_ap, aCons_ap, sTup_ap, sLst_ap, sLstM_ap, sNeg_ap, sIf_ap, sCl_ap, sKget_ap, sKgetI_ap, sKin_ap, sKnin_ap, sIsi_ap, sCh_ap, sFK_ap, sMt_ap, sNot_ap, sAnd_ap, sOr_ap, tB_ap, tT_ap, tNot_ap, tAnd_ap, tOr_ap, oNo_ap, oSo_ap, sSl_ap, sIt_ap, sEnm_ap, sRg1_ap, sRg2_ap, xSeq_ap, xNil_ap, xRet_ap, xRetN_ap, xExp_ap, xSet_ap, xAsg_ap, xPar_ap, xPar3_ap, xIf_ap, xPut_ap, xFor_ap, gN_ap, gsN_ap, gsC_ap, gT_ap, add_ii, sub_ii, lt_ii, le_ii, gt_ii, ge_ii, eq_ii, ne_ii, eq_ss, ne_ss, mkT_ap, allD_nil, allD_d, items_tup, items_lst, walk_lst, walk_tup, walk_s, froz_tup, froz_lst, tru_bl, tru_int, tru_no, len_tup, len_lst, len_s, min_ii, max_ii, int_bl, int_in, tuple_tup, tuple_lst, tyN_int, tyN_tup, tyN_str, kit_ib, kit_ii, kit_tt, kit_st, kit_it, enum_nil, enum_cons, for_nil, List.getElem?_cons_zero, List.getElem?_cons_succ, List.set_cons_zero, List.set_cons_succ, List.length_cons, List.length_nil, Option.map_some, Option.bind_some, Bool.not_true, Bool.not_false, decide_true, decide_false, decide_eq_true_eq, if_true, if_false, Bool.false_eq_true, Nat.reduceAdd, Nat.reduceSub, Nat.reduceLeDiff, Nat.reduceMul, Nat.reduceLT, Nat.reduceEqDiff, reduceIte, Bool.true_eq_false, and_true, true_and, and_self, Option.isSome_some, Option.isSome_none, List.append_nil, List.nil_append, List.cons_append, Nat.zero_add, Nat.add_zero, eq_self, Int.cast_ofNat_Int, Int.reduceEq, Int.reduceNe, Int.reduceLT, Int.reduceLE, Int.reduceNeg, Int.reduceAdd, Int.reduceSub, Int.reduceMul, lc, y0, List.map_nil]) ?_
    refine xSeq_nx (e := [some (.d (sch (wds a b c d e) pl)), some (.d (.str z1)), some (.d (.str z2)), some (.d (.int l1)), some (.d (.int h1)), some (.d (.int l2)), some (.d (.int h2)), some (.d (.str x)), some (.r (⟨st.obs, st.n⟩ : Sto).n), u9, u10]) (s := (⟨st.obs, st.n⟩ : Sto).push (.l (ds.map .d))) ?_ ?_
    · obtain ⟨k1, k2⟩ := b1
      obtain ⟨k3, k4⟩ := b2
      rw [← run]
      generalize (⟨st.obs, st.n⟩ : Sto).push (.l (([] : List PD).map .d)) = t at *
      generalize (⟨st.obs, st.n⟩ : Sto).n = n at *
      simp only [bind_ok, bindN_ok, toS_ok, lift_some, sK_ap, sV_ap, s2_ap, sF_ap, aNil_ap, aCons_ap, sTup_ap, sLst_ap, sLstM_ap, sNeg_ap, sIf_ap, sCl_ap, sKget_ap, sKgetI_ap, sKin_ap, sKnin_ap, sIsi_ap, sCh_ap, sFK_ap, sMt_ap, sNot_ap, sAnd_ap, sOr_ap, tB_ap, tT_ap, tNot_ap, tAnd_ap, tOr_ap, oNo_ap, oSo_ap, sSl_ap, sIt_ap, sEnm_ap, sRg1_ap, sRg2_ap, xSeq_ap, xNil_ap, xRet_ap, xRetN_ap, xExp_ap, xSet_ap, xAsg_ap, xPar_ap, xPar3_ap, xIf_ap, xPut_ap, xFor_ap, gN_ap, gsN_ap, gsC_ap, gT_ap, add_ii, sub_ii, lt_ii, le_ii, gt_ii, ge_ii, eq_ii, ne_ii, eq_ss, ne_ss, mkT_ap, allD_nil, allD_d, items_tup, items_lst, walk_lst, walk_tup, walk_s, froz_tup, froz_lst, tru_bl, tru_int, tru_no, len_tup, len_lst, len_s, min_ii, max_ii, int_bl, int_in, tuple_tup, tuple_lst, tyN_int, tyN_tup, tyN_str, kit_ib, kit_ii, kit_tt, kit_st, kit_it, enum_nil, enum_cons, for_nil, List.getElem?_cons_zero, List.getElem?_cons_succ, List.set_cons_zero, List.set_cons_succ, List.length_cons, List.length_nil, Option.map_some, Option.bind_some, Bool.not_true, Bool.not_false, decide_true, decide_false, decide_eq_true_eq, if_true, if_false, Bool.false_eq_true, Nat.reduceAdd, Nat.reduceSub, Nat.reduceLeDiff, Nat.reduceMul, Nat.reduceLT, Nat.reduceEqDiff, reduceIte, Bool.true_eq_false, and_true, true_and, and_self, Option.isSome_some, Option.isSome_none, List.append_nil, List.nil_append, List.cons_append, Nat.zero_add, Nat.add_zero, eq_self, Int.cast_ofNat_Int, Int.reduceEq, Int.reduceNe, Int.reduceLT, Int.reduceLE, Int.reduceNeg, Int.reduceAdd, Int.reduceSub, Int.reduceMul, k1, k2, k3, k4]
    · generalize (⟨st.obs, st.n⟩ : Sto).push (.l (ds.map .d)) = t at *
      generalize (⟨st.obs, st.n⟩ : Sto).n = n at *
      cases ds with
      | nil =>
        simp only [List.isEmpty_nil, Bool.not_true] at nn
        simp only [bind_ok, bindN_ok, toS_ok, lift_some, sK_ap, sV_ap, s2_ap, sF_ap, aNil_ap, aCons_ap, sTup_ap, sLst_ap, sLstM_ap, sNeg_ap, sIf_ap, sCl_ap, sKget_ap, sKgetI_ap, sKin_ap, sKnin_ap, sIsi_ap, sCh_ap, sFK_ap, sMt_ap, sNot_ap, sAnd_ap, sOr_ap, tB_ap, tT_ap, tNot_ap, tAnd_ap, tOr_ap, oNo_ap, oSo_ap, sSl_ap, sIt_ap, sEnm_ap, sRg1_ap, sRg2_ap, xSeq_ap, xNil_ap, xRet_ap, xRetN_ap, xExp_ap, xSet_ap, xAsg_ap, xPar_ap, xPar3_ap, xIf_ap, xPut_ap, xFor_ap, gN_ap, gsN_ap, gsC_ap, gT_ap, add_ii, sub_ii, lt_ii, le_ii, gt_ii, ge_ii, eq_ii, ne_ii, eq_ss, ne_ss, mkT_ap, allD_nil, allD_d, items_tup, items_lst, walk_lst, walk_tup, walk_s, froz_tup, froz_lst, tru_bl, tru_int, tru_no, len_tup, len_lst, len_s, min_ii, max_ii, int_bl, int_in, tuple_tup, tuple_lst, tyN_int, tyN_tup, tyN_str, kit_ib, kit_ii, kit_tt, kit_st, kit_it, enum_nil, enum_cons, for_nil, List.getElem?_cons_zero, List.getElem?_cons_succ, List.set_cons_zero, List.set_cons_succ, List.length_cons, List.length_nil, Option.map_some, Option.bind_some, Bool.not_true, Bool.not_false, decide_true, decide_false, decide_eq_true_eq, if_true, if_false, Bool.false_eq_true, Nat.reduceAdd, Nat.reduceSub, Nat.reduceLeDiff, Nat.reduceMul, Nat.reduceLT, Nat.reduceEqDiff, reduceIte, Bool.true_eq_false, and_true, true_and, and_self, Option.isSome_some, Option.isSome_none, List.append_nil, List.nil_append, List.cons_append, Nat.zero_add, Nat.add_zero, eq_self, Int.cast_ofNat_Int, Int.reduceEq, Int.reduceNe, Int.reduceLT, Int.reduceLE, Int.reduceNeg, Int.reduceAdd, Int.reduceSub, Int.reduceMul, ln, nn, y0, y2]
        rfl
      | cons y ys =>
        have ix := ix_at A (k := 0) (v := .d y) (by
          have := atI_nat (xs := (y :: ys).map Va.d) (j := 0) (v := .d y) rfl
          exact this)
        simp only [List.isEmpty_cons, Bool.not_false] at nn
        simp only [bind_ok, bindN_ok, toS_ok, lift_some, sK_ap, sV_ap, s2_ap, sF_ap, aNil_ap, aCons_ap, sTup_ap, sLst_ap, sLstM_ap, sNeg_ap, sIf_ap, sCl_ap, sKget_ap, sKgetI_ap, sKin_ap, sKnin_ap, sIsi_ap, sCh_ap, sFK_ap, sMt_ap, sNot_ap, sAnd_ap, sOr_ap, tB_ap, tT_ap, tNot_ap, tAnd_ap, tOr_ap, oNo_ap, oSo_ap, sSl_ap, sIt_ap, sEnm_ap, sRg1_ap, sRg2_ap, xSeq_ap, xNil_ap, xRet_ap, xRetN_ap, xExp_ap, xSet_ap, xAsg_ap, xPar_ap, xPar3_ap, xIf_ap, xPut_ap, xFor_ap, gN_ap, gsN_ap, gsC_ap, gT_ap, add_ii, sub_ii, lt_ii, le_ii, gt_ii, ge_ii, eq_ii, ne_ii, eq_ss, ne_ss, mkT_ap, allD_nil, allD_d, items_tup, items_lst, walk_lst, walk_tup, walk_s, froz_tup, froz_lst, tru_bl, tru_int, tru_no, len_tup, len_lst, len_s, min_ii, max_ii, int_bl, int_in, tuple_tup, tuple_lst, tyN_int, tyN_tup, tyN_str, kit_ib, kit_ii, kit_tt, kit_st, kit_it, enum_nil, enum_cons, for_nil, List.getElem?_cons_zero, List.getElem?_cons_succ, List.set_cons_zero, List.set_cons_succ, List.length_cons, List.length_nil, Option.map_some, Option.bind_some, Bool.not_true, Bool.not_false, decide_true, decide_false, decide_eq_true_eq, if_true, if_false, Bool.false_eq_true, Nat.reduceAdd, Nat.reduceSub, Nat.reduceLeDiff, Nat.reduceMul, Nat.reduceLT, Nat.reduceEqDiff, reduceIte, Bool.true_eq_false, and_true, true_and, and_self, Option.isSome_some, Option.isSome_none, List.append_nil, List.nil_append, List.cons_append, Nat.zero_add, Nat.add_zero, eq_self, Int.cast_ofNat_Int, Int.reduceEq, Int.reduceNe, Int.reduceLT, Int.reduceLE, Int.reduceNeg, Int.reduceAdd, Int.reduceSub, Int.reduceMul, ln, nn, ix, y0, y2]
        rfl
  rw [fin]
  congr 1
  exact push_take st _
end
end K44

set_option maxHeartbeats 4000000
namespace K44
open PySem PySem.Spec PyProof.Rows L2 Vi
theorem prod_le {x y : Int} (x0 : 0 ≤ x) (x1 : x ≤ 2 ^ 131) (y0 : 0 ≤ y) (y1 : y ≤ 2 ^ 131) : 0 ≤ x * y ∧ x * y ≤ 2 ^ 262 := by
  refine ⟨Int.mul_nonneg x0 y0, ?_⟩
  have a : x * y ≤ 2 ^ 131 * y := Int.mul_le_mul_of_nonneg_right x1 y0
  have b : (2 : Int) ^ 131 * y ≤ 2 ^ 131 * 2 ^ 131 := Int.mul_le_mul_of_nonneg_left y1 (by decide)
  have c : (2 : Int) ^ 131 * 2 ^ 131 = 2 ^ 262 := by decide
  omega
theorem cnt_abs {m h t : Int} (hm : 0 ≤ m) (hm2 : m ≤ 2 ^ 130) (hh : 0 ≤ h) (hh2 : h ≤ 2 ^ 130) (ht : h ≤ t) (ht2 : t ≤ 2 ^ 130) : (cnt m h t).natAbs < 10 ^ 100 := by
  unfold cnt
  obtain ⟨w, hw⟩ : ∃ w, w = (if t - h < m then t - h else m) := ⟨_, rfl⟩
  rw [← hw]
  have w0 : 0 ≤ w := by rw [hw]; split <;> omega
  have w1 : w ≤ m := by rw [hw]; split <;> omega
  have a := prod_le (x := w) (y := h + 1) w0 (by omega) (by omega) (by omega)
  have b := prod_le (x := m - w) (y := t + 1) (by omega) (by omega) (by omega) (by omega)
  have c := prod_le (x := m) (y := m + 1) hm (by omega) (by omega) (by omega)
  have d := prod_le (x := w) (y := w + 1) w0 (by omega) (by omega) (by omega)
  have big : (2 : Nat) ^ 270 < 10 ^ 100 := by decide +kernel
  refine Nat.lt_trans ?_ big
  omega
theorem fst_at {gc : Bool} {vc : Nat} {l r : Int} {n k : Nat} (h : wr gc vc l r = true) : fst ((rngI l (n + 1)).flatMap fun l => row gc vc l (rngI r (k + 1))) = .tuple [.int l, .int r] := by
  rw [rngI_cons l n, List.flatMap_cons]
  unfold row
  rw [rngI_cons r k, List.filter_cons_of_pos h, List.map_cons]
  rfl
theorem found_0 {g1 g2 gc : Bool} {v1 v2 vc : Nat} (a : lo gc vc ≤ lo g1 v1) (b : hi g1 v1 ≤ hi gc vc) (c : lo gc vc ≤ lo g2 v2) (d : hi g2 v2 ≤ hi gc vc) : found g1 v1 g2 v2 gc vc = [] := by
  unfold found
  refine all_nil fun l hl r hr => ?_
  have x := rngI_mem hl
  have y := rngI_mem hr
  generalize hi g1 v1 = h1 at *
  generalize hi g2 v2 = h2 at *
  generalize lo g1 v1 = l1 at *
  generalize lo g2 v2 = l2 at *
  exact wr_held (by omega) (by omega) (by omega) (by omega)
theorem halves {v : Nat} (h : 2 ≤ v) : ∃ m : Nat, 1 ≤ m ∧ lo true v = -(m : Int) ∧ hi true v = (m : Int) - 1 ∧ (2 : Int) ^ v = 2 * (m : Int) := by
  have p := p2p (v - 1)
  have s := p2s (v := v) (by omega)
  refine ⟨((2 : Int) ^ (v - 1)).toNat, by omega, by rw [loT]; omega, by rw [hiT (by omega)]; omega, by omega⟩
theorem found_1 {g2 : Bool} {v1 v2 vc : Nat} (l1 : 2 ≤ v1) (l2 : 2 ≤ v2) (hg : g2 = false) (q1 : hi true v1 ≤ hi false vc) (q2 : hi g2 v2 ≤ hi false vc) (y : v1 ≤ vc) : ((found true v1 g2 v2 false vc).length : Int) = cnt (-(lo true v1)) (hi g2 v2) (2 ^ vc - 1 + 1) ∧ fst (found true v1 g2 v2 false vc) = .tuple [.int (lo true v1), .int 0] := by
  subst hg
  obtain ⟨m, m1, e1, e2, e3⟩ := halves l1
  have pc := p2 y
  have pp := p2p vc
  have h0 := (hi_pos (g := false) l2).1
  have hc : hi false vc = 2 ^ vc - 1 := hiF
  have fe : found true v1 false v2 false vc = (rngI (-(m : Int)) (m + m)).flatMap fun l => row false vc l (rngI 0 (hi false v2 + 1).toNat) := by
    unfold found
    rw [e1, e2, loF, Int.sub_zero, show ((m : Int) - 1 + 1 - -(m : Int)).toNat = m + m by omega]
  rw [fe, e1]
  generalize hi false v2 = h at *
  constructor
  · rw [Int.neg_neg]
    exact tried_1 h0 (by omega) m (by omega) m (by omega)
  · rw [show m + m = (m + m - 1) + 1 by omega, show (h + 1).toNat = h.toNat + 1 by omega]
    refine fst_at ?_
    rw [wr_1 (by omega) (by omega) (by omega) (by omega)]
    exact decide_eq_true (by omega)
theorem found_2 {v1 v2 vc : Nat} (l1 : 2 ≤ v1) (l2 : 2 ≤ v2) (q1 : hi false v1 ≤ hi false vc) (q2 : hi true v2 ≤ hi false vc) (y : v2 ≤ vc) : ((found false v1 true v2 false vc).length : Int) = cnt (-(lo true v2)) (hi false v1) (2 ^ vc - 1) ∧ fst (found false v1 true v2 false vc) = .tuple [.int 0, .int (lo true v2)] := by
  obtain ⟨m, m1, e1, e2, e3⟩ := halves l2
  have pc := p2 y
  have pp := p2p vc
  have h0 := (hi_pos (g := false) l1).1
  have hc : hi false vc = 2 ^ vc - 1 := hiF
  obtain ⟨k, hk⟩ : ∃ k : Nat, hi false v1 = (k : Int) := ⟨(hi false v1).toNat, by omega⟩
  have fe : found false v1 true v2 false vc = (rngI 0 (k + 1)).flatMap fun l => row false vc l (rngI (-(m : Int)) (m + m)) := by
    unfold found
    rw [e1, e2, loF, Int.sub_zero, hk, show ((m : Int) - 1 + 1 - -(m : Int)).toNat = m + m by omega, show ((k : Int) + 1).toNat = k + 1 by omega]
  rw [fe, e1, hk]
  rw [hk] at q1
  constructor
  · rw [Int.neg_neg]
    exact tried_2 (by omega) m (by omega) k (by omega)
  · rw [show m + m = (m + m - 1) + 1 by omega]
    refine fst_at ?_
    rw [wr_2 (by omega) (by omega) (by omega) (by omega)]
    exact decide_eq_true (by omega)
section
variable {a b c d e : Int} {pl z1 z2 x : Str} {g1 g2 gc : Bool} {v1 v2 vc : Nat}
theorem wrong_ok (K1 : Kd (wds a b c d e) pl z1 g1 v1) (K2 : Kd (wds a b c d e) pl z2 g2 v2) (KC : Kd (wds a b c d e) pl x gc vc) (cm : ∀ st, F_common_in [.d (sch (wds a b c d e) pl), .d (.str z1), .d (.str z2)] st = .ok (.d (.str x)) st) (st : Sto) :
    F_is_wrong [.d (sch (wds a b c d e) pl), .d (.str z1), .d (.str z2)] st = .ok (.d (.bool (!gc && (g1 || g2)))) st := by
  refine dF_pure rfl ?_
  show b_is_wrong [some (.d (sch (wds a b c d e) pl)), some (.d (.str z1)), some (.d (.str z2))] ⟨st.obs, st.n⟩ = _
  cases gc
  · cases g1 <;> simp only [bind_ok, bindN_ok, toS_ok, lift_some, sK_ap, sV_ap, s2_ap, sF_ap, aNil_ap, aCons_ap, sTup_ap, sLst_ap, sLstM_ap, sNeg_ap, sIf_ap, sCl_ap, sKget_ap, sKgetI_ap, sKin_ap, sKnin_ap, sIsi_ap, sCh_ap, sFK_ap, sMt_ap, sNot_ap, sAnd_ap, sOr_ap, tB_ap, tT_ap, tNot_ap, tAnd_ap, tOr_ap, oNo_ap, oSo_ap, sSl_ap, sIt_ap, sEnm_ap, sRg1_ap, sRg2_ap, xSeq_ap, xNil_ap, xRet_ap, xRetN_ap, xExp_ap, xSet_ap, xAsg_ap, xPar_ap, xPar3_ap, xIf_ap, xPut_ap, xFor_ap, gN_ap, gsN_ap, gsC_ap, gT_ap, add_ii, sub_ii, lt_ii, le_ii, gt_ii, ge_ii, eq_ii, ne_ii, eq_ss, ne_ss, mkT_ap, allD_nil, allD_d, items_tup, items_lst, walk_lst, walk_tup, walk_s, froz_tup, froz_lst, tru_bl, tru_int, tru_no, len_tup, len_lst, len_s, min_ii, max_ii, int_bl, int_in, tuple_tup, tuple_lst, tyN_int, tyN_tup, tyN_str, kit_ib, kit_ii, kit_tt, kit_st, kit_it, enum_nil, enum_cons, for_nil, List.getElem?_cons_zero, List.getElem?_cons_succ, List.set_cons_zero, List.set_cons_succ, List.length_cons, List.length_nil, Option.map_some, Option.bind_some, Bool.not_true, Bool.not_false, decide_true, decide_false, decide_eq_true_eq, if_true, if_false, Bool.false_eq_true, Nat.reduceAdd, Nat.reduceSub, Nat.reduceLeDiff, Nat.reduceMul, Nat.reduceLT, Nat.reduceEqDiff, reduceIte, Bool.true_eq_false, and_true, true_and, and_self, Option.isSome_some, Option.isSome_none, List.append_nil, List.nil_append, List.cons_append, Nat.zero_add, Nat.add_zero, eq_self, Int.cast_ofNat_Int, Int.reduceEq, Int.reduceNe, Int.reduceLT, Int.reduceLE, Int.reduceNeg, Int.reduceAdd, Int.reduceSub, Int.reduceMul, b_is_wrong, cm, KC.hel, K1.hel, K2.hel] <;> rfl
  · simp only [bind_ok, bindN_ok, toS_ok, lift_some, sK_ap, sV_ap, s2_ap, sF_ap, aNil_ap, aCons_ap, sTup_ap, sLst_ap, sLstM_ap, sNeg_ap, sIf_ap, sCl_ap, sKget_ap, sKgetI_ap, sKin_ap, sKnin_ap, sIsi_ap, sCh_ap, sFK_ap, sMt_ap, sNot_ap, sAnd_ap, sOr_ap, tB_ap, tT_ap, tNot_ap, tAnd_ap, tOr_ap, oNo_ap, oSo_ap, sSl_ap, sIt_ap, sEnm_ap, sRg1_ap, sRg2_ap, xSeq_ap, xNil_ap, xRet_ap, xRetN_ap, xExp_ap, xSet_ap, xAsg_ap, xPar_ap, xPar3_ap, xIf_ap, xPut_ap, xFor_ap, gN_ap, gsN_ap, gsC_ap, gT_ap, add_ii, sub_ii, lt_ii, le_ii, gt_ii, ge_ii, eq_ii, ne_ii, eq_ss, ne_ss, mkT_ap, allD_nil, allD_d, items_tup, items_lst, walk_lst, walk_tup, walk_s, froz_tup, froz_lst, tru_bl, tru_int, tru_no, len_tup, len_lst, len_s, min_ii, max_ii, int_bl, int_in, tuple_tup, tuple_lst, tyN_int, tyN_tup, tyN_str, kit_ib, kit_ii, kit_tt, kit_st, kit_it, enum_nil, enum_cons, for_nil, List.getElem?_cons_zero, List.getElem?_cons_succ, List.set_cons_zero, List.set_cons_succ, List.length_cons, List.length_nil, Option.map_some, Option.bind_some, Bool.not_true, Bool.not_false, decide_true, decide_false, decide_eq_true_eq, if_true, if_false, Bool.false_eq_true, Nat.reduceAdd, Nat.reduceSub, Nat.reduceLeDiff, Nat.reduceMul, Nat.reduceLT, Nat.reduceEqDiff, reduceIte, Bool.true_eq_false, and_true, true_and, and_self, Option.isSome_some, Option.isSome_none, List.append_nil, List.nil_append, List.cons_append, Nat.zero_add, Nat.add_zero, eq_self, Int.cast_ofNat_Int, Int.reduceEq, Int.reduceNe, Int.reduceLT, Int.reduceLE, Int.reduceNeg, Int.reduceAdd, Int.reduceSub, Int.reduceMul, b_is_wrong, cm, KC.hel]
    rfl
theorem pair_ck (W : Wd a b c d e) (hp : pl = "s" ∨ pl = "u") (K1 : Kd (wds a b c d e) pl z1 g1 v1) (K2 : Kd (wds a b c d e) pl z2 g2 v2) (st : Sto) : F_check_pair [.d (sch (wds a b c d e) pl), .d (.str z1), .d (.str z2)] st = .ok (.d .none) st := by
  refine dF_pureN rfl (e := [some (.d (sch (wds a b c d e) pl)), some (.d (.str z1)), some (.d (.str z2))]) ?_
  show b_check_pair [some (.d (sch (wds a b c d e) pl)), some (.d (.str z1)), some (.d (.str z2))] ⟨st.obs, st.n⟩ = _
  simp only [bind_ok, bindN_ok, toS_ok, lift_some, sK_ap, sV_ap, s2_ap, sF_ap, aNil_ap, aCons_ap, sTup_ap, sLst_ap, sLstM_ap, sNeg_ap, sIf_ap, sCl_ap, sKget_ap, sKgetI_ap, sKin_ap, sKnin_ap, sIsi_ap, sCh_ap, sFK_ap, sMt_ap, sNot_ap, sAnd_ap, sOr_ap, tB_ap, tT_ap, tNot_ap, tAnd_ap, tOr_ap, oNo_ap, oSo_ap, sSl_ap, sIt_ap, sEnm_ap, sRg1_ap, sRg2_ap, xSeq_ap, xNil_ap, xRet_ap, xRetN_ap, xExp_ap, xSet_ap, xAsg_ap, xPar_ap, xPar3_ap, xIf_ap, xPut_ap, xFor_ap, gN_ap, gsN_ap, gsC_ap, gT_ap, add_ii, sub_ii, lt_ii, le_ii, gt_ii, ge_ii, eq_ii, ne_ii, eq_ss, ne_ss, mkT_ap, allD_nil, allD_d, items_tup, items_lst, walk_lst, walk_tup, walk_s, froz_tup, froz_lst, tru_bl, tru_int, tru_no, len_tup, len_lst, len_s, min_ii, max_ii, int_bl, int_in, tuple_tup, tuple_lst, tyN_int, tyN_tup, tyN_str, kit_ib, kit_ii, kit_tt, kit_st, kit_it, enum_nil, enum_cons, for_nil, List.getElem?_cons_zero, List.getElem?_cons_succ, List.set_cons_zero, List.set_cons_succ, List.length_cons, List.length_nil, Option.map_some, Option.bind_some, Bool.not_true, Bool.not_false, decide_true, decide_false, decide_eq_true_eq, if_true, if_false, Bool.false_eq_true, Nat.reduceAdd, Nat.reduceSub, Nat.reduceLeDiff, Nat.reduceMul, Nat.reduceLT, Nat.reduceEqDiff, reduceIte, Bool.true_eq_false, and_true, true_and, and_self, Option.isSome_some, Option.isSome_none, List.append_nil, List.nil_append, List.cons_append, Nat.zero_add, Nat.add_zero, eq_self, Int.cast_ofNat_Int, Int.reduceEq, Int.reduceNe, Int.reduceLT, Int.reduceLE, Int.reduceNeg, Int.reduceAdd, Int.reduceSub, Int.reduceMul, b_check_pair, model_ok W hp, K1.ck, K2.ck]
theorem great {v : Nat} : cv false v (-1) = 2 ^ v - 1 := by
  show (-1 - lo false v) % 2 ^ v + lo false v = _
  rw [loF]
  have p := p2p v
  have e : (-1 - 0 : Int) = (2 ^ v - 1) + 2 ^ v * (-1) := by omega
  rw [e, Int.add_mul_emod_self_left, Int.emod_eq_of_lt (by omega) (by omega)]
  omega
/-- for each pair: count, first, and what the law expects -/
theorem pair_ok (W : Wd a b c d e) (he : e ≤ 5) (hp : pl = "s" ∨ pl = "u") (h1 : z1 ∈ labs) (h2 : z2 ∈ labs) : ∃ (n : Int) (f : PD), (∀ st, F_count_wrong [.d (sch (wds a b c d e) pl), .d (.str z1), .d (.str z2)] st = .ok (.d (.int n)) st) ∧ (∀ st, F_first_wrong [.d (sch (wds a b c d e) pl), .d (.str z1), .d (.str z2)] st = .ok (.d f) st) ∧
    (∀ st, F__law_tried [.d (sch (wds a b c d e) pl), .d (.str z1), .d (.str z2)] st = .ok (.d (.list [.int n, f])) st) ∧ Shw (.list [.int n, f]) := by
  obtain ⟨g1, v1, g2, v2, x, gc, vc, K1, K2, KC, cm, lc, q1, q2, qc, qs, y1, y2, t1, t2, t3⟩ := comm_kd W hp h1 h2
  have q1o := q1
  have q2o := q2
  have wr := wrong_ok K1 K2 KC cm
  have pc := pair_ck W hp K1 K2
  have z2' : 2 ≤ sizeLine := by decide
  have i1 := fun st => ix_tupN (st := st) (ds := [.int (lo g1 v1), .int (hi g1 v1)]) (k := 0) rfl
  have i1' := fun st => ix_tupN (st := st) (ds := [.int (lo g1 v1), .int (hi g1 v1)]) (k := 1) rfl
  have i2 := fun st => ix_tupN (st := st) (ds := [.int (lo g2 v2), .int (hi g2 v2)]) (k := 0) rfl
  have i2' := fun st => ix_tupN (st := st) (ds := [.int (lo g2 v2), .int (hi g2 v2)]) (k := 1) rfl
  have ic' := fun st => ix_tupN (st := st) (ds := [.int (lo gc vc), .int (hi gc vc)]) (k := 1) rfl
  simp only [bind_ok, bindN_ok, toS_ok, lift_some, sK_ap, sV_ap, s2_ap, sF_ap, aNil_ap, aCons_ap, sTup_ap, sLst_ap, sLstM_ap, sNeg_ap, sIf_ap, sCl_ap, sKget_ap, sKgetI_ap, sKin_ap, sKnin_ap, sIsi_ap, sCh_ap, sFK_ap, sMt_ap, sNot_ap, sAnd_ap, sOr_ap, tB_ap, tT_ap, tNot_ap, tAnd_ap, tOr_ap, oNo_ap, oSo_ap, sSl_ap, sIt_ap, sEnm_ap, sRg1_ap, sRg2_ap, xSeq_ap, xNil_ap, xRet_ap, xRetN_ap, xExp_ap, xSet_ap, xAsg_ap, xPar_ap, xPar3_ap, xIf_ap, xPut_ap, xFor_ap, gN_ap, gsN_ap, gsC_ap, gT_ap, add_ii, sub_ii, lt_ii, le_ii, gt_ii, ge_ii, eq_ii, ne_ii, eq_ss, ne_ss, mkT_ap, allD_nil, allD_d, items_tup, items_lst, walk_lst, walk_tup, walk_s, froz_tup, froz_lst, tru_bl, tru_int, tru_no, len_tup, len_lst, len_s, min_ii, max_ii, int_bl, int_in, tuple_tup, tuple_lst, tyN_int, tyN_tup, tyN_str, kit_ib, kit_ii, kit_tt, kit_st, kit_it, enum_nil, enum_cons, for_nil, List.getElem?_cons_zero, List.getElem?_cons_succ, List.set_cons_zero, List.set_cons_succ, List.length_cons, List.length_nil, Option.map_some, Option.bind_some, Bool.not_true, Bool.not_false, decide_true, decide_false, decide_eq_true_eq, if_true, if_false, Bool.false_eq_true, Nat.reduceAdd, Nat.reduceSub, Nat.reduceLeDiff, Nat.reduceMul, Nat.reduceLT, Nat.reduceEqDiff, reduceIte, Bool.true_eq_false, and_true, true_and, and_self, Option.isSome_some, Option.isSome_none, List.append_nil, List.nil_append, List.cons_append, Nat.zero_add, Nat.add_zero, eq_self, Int.cast_ofNat_Int, Int.reduceEq, Int.reduceNe, Int.reduceLT, Int.reduceLE, Int.reduceNeg, Int.reduceAdd, Int.reduceSub, Int.reduceMul] at i1 i1' i2 i2' ic'
  have run1 : ∀ {n : PD}, (∀ st : Sto, b_count_wrong [some (.d (sch (wds a b c d e) pl)), some (.d (.str z1)), some (.d (.str z2)), none] st = .ok (.rt (.d n)) st) → ∀ st, F_count_wrong [.d (sch (wds a b c d e) pl), .d (.str z1), .d (.str z2)] st = .ok (.d n) st := fun h st => dF_pure rfl (h _)
  have run2 : ∀ {n : PD}, (∀ st : Sto, b_first_wrong [some (.d (sch (wds a b c d e) pl)), some (.d (.str z1)), some (.d (.str z2))] st = .ok (.rt (.d n)) st) → ∀ st, F_first_wrong [.d (sch (wds a b c d e) pl), .d (.str z1), .d (.str z2)] st = .ok (.d n) st := fun h st => dF_pure rfl (h _)
  have tr := tried_ok K1 K2 KC lc (by omega) (by omega)
  have shN : Shw (.list [.int 0, .none]) := shw_any (by simp only [AllI, AllIs, and_true]; decide) (by kernel_rfl) (Nat.le_of_ble_eq_true (by kernel_rfl)) (Nat.le_of_ble_eq_true (by kernel_rfl))
  have l1 := K1.l
  have l2 := K2.l
  have u1 := K1.u
  have u2 := K2.u
  have uc := KC.u
  have pc128 := p2 (show vc ≤ 128 by omega)
  have p128 : (2 : Int) ^ 128 = 340282366920938463463374607431768211456 := by decide
  cases gc
  · by_cases hg : g1 = true
    · -- the first is signed
      subst hg
      have ps := p2s (v := v1) (by omega)
      have pp := p2p (v1 - 1)
      rw [hiT (by omega), hiF] at q1
      rw [hiF] at q2
      have hh : 0 ≤ hi g2 v2 := (hi_pos l2).1
      have bm : 0 ≤ -(lo true v1) ∧ -(lo true v1) ≤ 2 ^ vc := by rw [loT]; omega
      have uo := fun st => under_ok (m := -(lo true v1)) (h := hi g2 v2) (t := 2 ^ vc - 1 + 1) bm.1 (by omega) hh (by omega) (by omega) (by omega) st
      have ab := cnt_abs (m := -(lo true v1)) (h := hi g2 v2) (t := 2 ^ vc - 1 + 1) bm.1 (by omega) hh (by omega) (by omega) (by omega)
      have neg : lo true v1 < 0 := by rw [loT]; omega
      have n0 : ¬ lo true v1 = 0 := by omega
      have ez : 0 - lo true v1 = -(lo true v1) := by omega
      have hiC : hi false vc + 1 = 2 ^ vc - 1 + 1 := by rw [hiF]
      refine ⟨cnt (-(lo true v1)) (hi g2 v2) (2 ^ vc - 1 + 1), .tuple [.int (lo true v1), .int 0], run1 fun st => ?_, run2 fun st => ?_, fun st => ?_, ?_⟩
      · have gr := KC.int (-1) st
        rw [great] at gr
        simp only [bind_ok, bindN_ok, toS_ok, lift_some, sK_ap, sV_ap, s2_ap, sF_ap, aNil_ap, aCons_ap, sTup_ap, sLst_ap, sLstM_ap, sNeg_ap, sIf_ap, sCl_ap, sKget_ap, sKgetI_ap, sKin_ap, sKnin_ap, sIsi_ap, sCh_ap, sFK_ap, sMt_ap, sNot_ap, sAnd_ap, sOr_ap, tB_ap, tT_ap, tNot_ap, tAnd_ap, tOr_ap, oNo_ap, oSo_ap, sSl_ap, sIt_ap, sEnm_ap, sRg1_ap, sRg2_ap, xSeq_ap, xNil_ap, xRet_ap, xRetN_ap, xExp_ap, xSet_ap, xAsg_ap, xPar_ap, xPar3_ap, xIf_ap, xPut_ap, xFor_ap, gN_ap, gsN_ap, gsC_ap, gT_ap, add_ii, sub_ii, lt_ii, le_ii, gt_ii, ge_ii, eq_ii, ne_ii, eq_ss, ne_ss, mkT_ap, allD_nil, allD_d, items_tup, items_lst, walk_lst, walk_tup, walk_s, froz_tup, froz_lst, tru_bl, tru_int, tru_no, len_tup, len_lst, len_s, min_ii, max_ii, int_bl, int_in, tuple_tup, tuple_lst, tyN_int, tyN_tup, tyN_str, kit_ib, kit_ii, kit_tt, kit_st, kit_it, enum_nil, enum_cons, for_nil, List.getElem?_cons_zero, List.getElem?_cons_succ, List.set_cons_zero, List.set_cons_succ, List.length_cons, List.length_nil, Option.map_some, Option.bind_some, Bool.not_true, Bool.not_false, decide_true, decide_false, decide_eq_true_eq, if_true, if_false, Bool.false_eq_true, Nat.reduceAdd, Nat.reduceSub, Nat.reduceLeDiff, Nat.reduceMul, Nat.reduceLT, Nat.reduceEqDiff, reduceIte, Bool.true_eq_false, and_true, true_and, and_self, Option.isSome_some, Option.isSome_none, List.append_nil, List.nil_append, List.cons_append, Nat.zero_add, Nat.add_zero, eq_self, Int.cast_ofNat_Int, Int.reduceEq, Int.reduceNe, Int.reduceLT, Int.reduceLE, Int.reduceNeg, Int.reduceAdd, Int.reduceSub, Int.reduceMul, b_count_wrong, pc, wr, Bool.true_or, Bool.and_self, cm, gr, K1.hel, K1.lim, K2.lim, i1, i2', uo]
      · simp only [bind_ok, bindN_ok, toS_ok, lift_some, sK_ap, sV_ap, s2_ap, sF_ap, aNil_ap, aCons_ap, sTup_ap, sLst_ap, sLstM_ap, sNeg_ap, sIf_ap, sCl_ap, sKget_ap, sKgetI_ap, sKin_ap, sKnin_ap, sIsi_ap, sCh_ap, sFK_ap, sMt_ap, sNot_ap, sAnd_ap, sOr_ap, tB_ap, tT_ap, tNot_ap, tAnd_ap, tOr_ap, oNo_ap, oSo_ap, sSl_ap, sIt_ap, sEnm_ap, sRg1_ap, sRg2_ap, xSeq_ap, xNil_ap, xRet_ap, xRetN_ap, xExp_ap, xSet_ap, xAsg_ap, xPar_ap, xPar3_ap, xIf_ap, xPut_ap, xFor_ap, gN_ap, gsN_ap, gsC_ap, gT_ap, add_ii, sub_ii, lt_ii, le_ii, gt_ii, ge_ii, eq_ii, ne_ii, eq_ss, ne_ss, mkT_ap, allD_nil, allD_d, items_tup, items_lst, walk_lst, walk_tup, walk_s, froz_tup, froz_lst, tru_bl, tru_int, tru_no, len_tup, len_lst, len_s, min_ii, max_ii, int_bl, int_in, tuple_tup, tuple_lst, tyN_int, tyN_tup, tyN_str, kit_ib, kit_ii, kit_tt, kit_st, kit_it, enum_nil, enum_cons, for_nil, List.getElem?_cons_zero, List.getElem?_cons_succ, List.set_cons_zero, List.set_cons_succ, List.length_cons, List.length_nil, Option.map_some, Option.bind_some, Bool.not_true, Bool.not_false, decide_true, decide_false, decide_eq_true_eq, if_true, if_false, Bool.false_eq_true, Nat.reduceAdd, Nat.reduceSub, Nat.reduceLeDiff, Nat.reduceMul, Nat.reduceLT, Nat.reduceEqDiff, reduceIte, Bool.true_eq_false, and_true, true_and, and_self, Option.isSome_some, Option.isSome_none, List.append_nil, List.nil_append, List.cons_append, Nat.zero_add, Nat.add_zero, eq_self, Int.cast_ofNat_Int, Int.reduceEq, Int.reduceNe, Int.reduceLT, Int.reduceLE, Int.reduceNeg, Int.reduceAdd, Int.reduceSub, Int.reduceMul, b_first_wrong, pc, wr, Bool.true_or, Bool.and_self, K1.hel, K1.lim, i1, z2']
      · rw [tr st, (found_1 l1 l2 (qs rfl rfl) q1o q2o y1).1, (found_1 l1 l2 (qs rfl rfl) q1o q2o y1).2]
      · refine shw_any ?_ (by kernel_rfl) (Nat.le_of_ble_eq_true (by kernel_rfl)) (Nat.le_of_ble_eq_true (by kernel_rfl))
        simp only [AllI, AllIs, and_true]
        refine ⟨ab, Nat.lt_of_le_of_lt (m := 2 ^ 130) (by omega) (by decide +kernel), by decide⟩
    · have hg : g1 = false := by cases g1 <;> first | rfl | exact absurd rfl hg
      subst hg
      cases g2
      · -- none is signed
        refine ⟨0, .none, run1 fun st => ?_, run2 fun st => ?_, fun st => ?_, shN⟩
        · simp only [bind_ok, bindN_ok, toS_ok, lift_some, sK_ap, sV_ap, s2_ap, sF_ap, aNil_ap, aCons_ap, sTup_ap, sLst_ap, sLstM_ap, sNeg_ap, sIf_ap, sCl_ap, sKget_ap, sKgetI_ap, sKin_ap, sKnin_ap, sIsi_ap, sCh_ap, sFK_ap, sMt_ap, sNot_ap, sAnd_ap, sOr_ap, tB_ap, tT_ap, tNot_ap, tAnd_ap, tOr_ap, oNo_ap, oSo_ap, sSl_ap, sIt_ap, sEnm_ap, sRg1_ap, sRg2_ap, xSeq_ap, xNil_ap, xRet_ap, xRetN_ap, xExp_ap, xSet_ap, xAsg_ap, xPar_ap, xPar3_ap, xIf_ap, xPut_ap, xFor_ap, gN_ap, gsN_ap, gsC_ap, gT_ap, add_ii, sub_ii, lt_ii, le_ii, gt_ii, ge_ii, eq_ii, ne_ii, eq_ss, ne_ss, mkT_ap, allD_nil, allD_d, items_tup, items_lst, walk_lst, walk_tup, walk_s, froz_tup, froz_lst, tru_bl, tru_int, tru_no, len_tup, len_lst, len_s, min_ii, max_ii, int_bl, int_in, tuple_tup, tuple_lst, tyN_int, tyN_tup, tyN_str, kit_ib, kit_ii, kit_tt, kit_st, kit_it, enum_nil, enum_cons, for_nil, List.getElem?_cons_zero, List.getElem?_cons_succ, List.set_cons_zero, List.set_cons_succ, List.length_cons, List.length_nil, Option.map_some, Option.bind_some, Bool.not_true, Bool.not_false, decide_true, decide_false, decide_eq_true_eq, if_true, if_false, Bool.false_eq_true, Nat.reduceAdd, Nat.reduceSub, Nat.reduceLeDiff, Nat.reduceMul, Nat.reduceLT, Nat.reduceEqDiff, reduceIte, Bool.true_eq_false, and_true, true_and, and_self, Option.isSome_some, Option.isSome_none, List.append_nil, List.nil_append, List.cons_append, Nat.zero_add, Nat.add_zero, eq_self, Int.cast_ofNat_Int, Int.reduceEq, Int.reduceNe, Int.reduceLT, Int.reduceLE, Int.reduceNeg, Int.reduceAdd, Int.reduceSub, Int.reduceMul, b_count_wrong, pc, wr, Bool.or_self, Bool.and_false]
        · simp only [bind_ok, bindN_ok, toS_ok, lift_some, sK_ap, sV_ap, s2_ap, sF_ap, aNil_ap, aCons_ap, sTup_ap, sLst_ap, sLstM_ap, sNeg_ap, sIf_ap, sCl_ap, sKget_ap, sKgetI_ap, sKin_ap, sKnin_ap, sIsi_ap, sCh_ap, sFK_ap, sMt_ap, sNot_ap, sAnd_ap, sOr_ap, tB_ap, tT_ap, tNot_ap, tAnd_ap, tOr_ap, oNo_ap, oSo_ap, sSl_ap, sIt_ap, sEnm_ap, sRg1_ap, sRg2_ap, xSeq_ap, xNil_ap, xRet_ap, xRetN_ap, xExp_ap, xSet_ap, xAsg_ap, xPar_ap, xPar3_ap, xIf_ap, xPut_ap, xFor_ap, gN_ap, gsN_ap, gsC_ap, gT_ap, add_ii, sub_ii, lt_ii, le_ii, gt_ii, ge_ii, eq_ii, ne_ii, eq_ss, ne_ss, mkT_ap, allD_nil, allD_d, items_tup, items_lst, walk_lst, walk_tup, walk_s, froz_tup, froz_lst, tru_bl, tru_int, tru_no, len_tup, len_lst, len_s, min_ii, max_ii, int_bl, int_in, tuple_tup, tuple_lst, tyN_int, tyN_tup, tyN_str, kit_ib, kit_ii, kit_tt, kit_st, kit_it, enum_nil, enum_cons, for_nil, List.getElem?_cons_zero, List.getElem?_cons_succ, List.set_cons_zero, List.set_cons_succ, List.length_cons, List.length_nil, Option.map_some, Option.bind_some, Bool.not_true, Bool.not_false, decide_true, decide_false, decide_eq_true_eq, if_true, if_false, Bool.false_eq_true, Nat.reduceAdd, Nat.reduceSub, Nat.reduceLeDiff, Nat.reduceMul, Nat.reduceLT, Nat.reduceEqDiff, reduceIte, Bool.true_eq_false, and_true, true_and, and_self, Option.isSome_some, Option.isSome_none, List.append_nil, List.nil_append, List.cons_append, Nat.zero_add, Nat.add_zero, eq_self, Int.cast_ofNat_Int, Int.reduceEq, Int.reduceNe, Int.reduceLT, Int.reduceLE, Int.reduceNeg, Int.reduceAdd, Int.reduceSub, Int.reduceMul, b_first_wrong, pc, wr, Bool.or_self, Bool.and_false]
        · rw [tr st, found_0 (g1 := false) (g2 := false) (gc := false) (v1 := v1) (v2 := v2) (vc := vc) (Int.le_refl _) q1o (Int.le_refl _) q2o]
          rfl
      · -- the second is signed
        have ps := p2s (v := v2) (by omega)
        have pp := p2p (v2 - 1)
        rw [hiT (by omega), hiF] at q2
        have hh : 0 ≤ hi false v1 := (hi_pos l1).1
        have bm : 0 ≤ -(lo true v2) ∧ -(lo true v2) ≤ 2 ^ vc := by rw [loT]; omega
        have q1' : hi false v1 ≤ 2 ^ vc - 1 := by rw [← hiF (v := vc)]; exact q1
        have uo := fun st => under_ok (m := -(lo true v2)) (h := hi false v1) (t := 2 ^ vc - 1) bm.1 (by omega) hh (by omega) (by omega) (by omega) st
        have ab := cnt_abs (m := -(lo true v2)) (h := hi false v1) (t := 2 ^ vc - 1) bm.1 (by omega) hh (by omega) (by omega) (by omega)
        have n0 : ¬ lo true v2 = 0 := by rw [loT]; omega
        have ez : 0 - lo true v2 = -(lo true v2) := by omega
        have hiC : hi false vc + 1 - 1 = 2 ^ vc - 1 := by rw [hiF]; omega
        have e1 : lo false v1 = 0 := rfl
        have i1o := i1
        have i1o' := i1'
        simp only [e1] at i1o i1o'
        refine ⟨cnt (-(lo true v2)) (hi false v1) (2 ^ vc - 1), .tuple [.int 0, .int (lo true v2)], run1 fun st => ?_, run2 fun st => ?_, fun st => ?_, ?_⟩
        · have gr := KC.int (-1) st
          rw [great] at gr
          simp only [bind_ok, bindN_ok, toS_ok, lift_some, sK_ap, sV_ap, s2_ap, sF_ap, aNil_ap, aCons_ap, sTup_ap, sLst_ap, sLstM_ap, sNeg_ap, sIf_ap, sCl_ap, sKget_ap, sKgetI_ap, sKin_ap, sKnin_ap, sIsi_ap, sCh_ap, sFK_ap, sMt_ap, sNot_ap, sAnd_ap, sOr_ap, tB_ap, tT_ap, tNot_ap, tAnd_ap, tOr_ap, oNo_ap, oSo_ap, sSl_ap, sIt_ap, sEnm_ap, sRg1_ap, sRg2_ap, xSeq_ap, xNil_ap, xRet_ap, xRetN_ap, xExp_ap, xSet_ap, xAsg_ap, xPar_ap, xPar3_ap, xIf_ap, xPut_ap, xFor_ap, gN_ap, gsN_ap, gsC_ap, gT_ap, add_ii, sub_ii, lt_ii, le_ii, gt_ii, ge_ii, eq_ii, ne_ii, eq_ss, ne_ss, mkT_ap, allD_nil, allD_d, items_tup, items_lst, walk_lst, walk_tup, walk_s, froz_tup, froz_lst, tru_bl, tru_int, tru_no, len_tup, len_lst, len_s, min_ii, max_ii, int_bl, int_in, tuple_tup, tuple_lst, tyN_int, tyN_tup, tyN_str, kit_ib, kit_ii, kit_tt, kit_st, kit_it, enum_nil, enum_cons, for_nil, List.getElem?_cons_zero, List.getElem?_cons_succ, List.set_cons_zero, List.set_cons_succ, List.length_cons, List.length_nil, Option.map_some, Option.bind_some, Bool.not_true, Bool.not_false, decide_true, decide_false, decide_eq_true_eq, if_true, if_false, Bool.false_eq_true, Nat.reduceAdd, Nat.reduceSub, Nat.reduceLeDiff, Nat.reduceMul, Nat.reduceLT, Nat.reduceEqDiff, reduceIte, Bool.true_eq_false, and_true, true_and, and_self, Option.isSome_some, Option.isSome_none, List.append_nil, List.nil_append, List.cons_append, Nat.zero_add, Nat.add_zero, eq_self, Int.cast_ofNat_Int, Int.reduceEq, Int.reduceNe, Int.reduceLT, Int.reduceLE, Int.reduceNeg, Int.reduceAdd, Int.reduceSub, Int.reduceMul, b_count_wrong, pc, wr, Bool.false_or, Bool.and_self, cm, gr, K1.hel, K1.lim, K2.lim, i2, i1', uo]
        · simp only [bind_ok, bindN_ok, toS_ok, lift_some, sK_ap, sV_ap, s2_ap, sF_ap, aNil_ap, aCons_ap, sTup_ap, sLst_ap, sLstM_ap, sNeg_ap, sIf_ap, sCl_ap, sKget_ap, sKgetI_ap, sKin_ap, sKnin_ap, sIsi_ap, sCh_ap, sFK_ap, sMt_ap, sNot_ap, sAnd_ap, sOr_ap, tB_ap, tT_ap, tNot_ap, tAnd_ap, tOr_ap, oNo_ap, oSo_ap, sSl_ap, sIt_ap, sEnm_ap, sRg1_ap, sRg2_ap, xSeq_ap, xNil_ap, xRet_ap, xRetN_ap, xExp_ap, xSet_ap, xAsg_ap, xPar_ap, xPar3_ap, xIf_ap, xPut_ap, xFor_ap, gN_ap, gsN_ap, gsC_ap, gT_ap, add_ii, sub_ii, lt_ii, le_ii, gt_ii, ge_ii, eq_ii, ne_ii, eq_ss, ne_ss, mkT_ap, allD_nil, allD_d, items_tup, items_lst, walk_lst, walk_tup, walk_s, froz_tup, froz_lst, tru_bl, tru_int, tru_no, len_tup, len_lst, len_s, min_ii, max_ii, int_bl, int_in, tuple_tup, tuple_lst, tyN_int, tyN_tup, tyN_str, kit_ib, kit_ii, kit_tt, kit_st, kit_it, enum_nil, enum_cons, for_nil, List.getElem?_cons_zero, List.getElem?_cons_succ, List.set_cons_zero, List.set_cons_succ, List.length_cons, List.length_nil, Option.map_some, Option.bind_some, Bool.not_true, Bool.not_false, decide_true, decide_false, decide_eq_true_eq, if_true, if_false, Bool.false_eq_true, Nat.reduceAdd, Nat.reduceSub, Nat.reduceLeDiff, Nat.reduceMul, Nat.reduceLT, Nat.reduceEqDiff, reduceIte, Bool.true_eq_false, and_true, true_and, and_self, Option.isSome_some, Option.isSome_none, List.append_nil, List.nil_append, List.cons_append, Nat.zero_add, Nat.add_zero, eq_self, Int.cast_ofNat_Int, Int.reduceEq, Int.reduceNe, Int.reduceLT, Int.reduceLE, Int.reduceNeg, Int.reduceAdd, Int.reduceSub, Int.reduceMul, b_first_wrong, pc, wr, Bool.false_or, Bool.and_self, K1.hel, K2.lim, i2, z2']
        · rw [tr st, (found_2 l1 l2 q1o q2o y2).1, (found_2 l1 l2 q1o q2o y2).2]
        · refine shw_any ?_ (by kernel_rfl) (Nat.le_of_ble_eq_true (by kernel_rfl)) (Nat.le_of_ble_eq_true (by kernel_rfl))
          simp only [AllI, AllIs, and_true]
          refine ⟨ab, by decide, Nat.lt_of_le_of_lt (m := 2 ^ 130) (by omega) (by decide +kernel)⟩
  · refine ⟨0, .none, run1 fun st => ?_, run2 fun st => ?_, fun st => ?_, shN⟩
    · simp only [bind_ok, bindN_ok, toS_ok, lift_some, sK_ap, sV_ap, s2_ap, sF_ap, aNil_ap, aCons_ap, sTup_ap, sLst_ap, sLstM_ap, sNeg_ap, sIf_ap, sCl_ap, sKget_ap, sKgetI_ap, sKin_ap, sKnin_ap, sIsi_ap, sCh_ap, sFK_ap, sMt_ap, sNot_ap, sAnd_ap, sOr_ap, tB_ap, tT_ap, tNot_ap, tAnd_ap, tOr_ap, oNo_ap, oSo_ap, sSl_ap, sIt_ap, sEnm_ap, sRg1_ap, sRg2_ap, xSeq_ap, xNil_ap, xRet_ap, xRetN_ap, xExp_ap, xSet_ap, xAsg_ap, xPar_ap, xPar3_ap, xIf_ap, xPut_ap, xFor_ap, gN_ap, gsN_ap, gsC_ap, gT_ap, add_ii, sub_ii, lt_ii, le_ii, gt_ii, ge_ii, eq_ii, ne_ii, eq_ss, ne_ss, mkT_ap, allD_nil, allD_d, items_tup, items_lst, walk_lst, walk_tup, walk_s, froz_tup, froz_lst, tru_bl, tru_int, tru_no, len_tup, len_lst, len_s, min_ii, max_ii, int_bl, int_in, tuple_tup, tuple_lst, tyN_int, tyN_tup, tyN_str, kit_ib, kit_ii, kit_tt, kit_st, kit_it, enum_nil, enum_cons, for_nil, List.getElem?_cons_zero, List.getElem?_cons_succ, List.set_cons_zero, List.set_cons_succ, List.length_cons, List.length_nil, Option.map_some, Option.bind_some, Bool.not_true, Bool.not_false, decide_true, decide_false, decide_eq_true_eq, if_true, if_false, Bool.false_eq_true, Nat.reduceAdd, Nat.reduceSub, Nat.reduceLeDiff, Nat.reduceMul, Nat.reduceLT, Nat.reduceEqDiff, reduceIte, Bool.true_eq_false, and_true, true_and, and_self, Option.isSome_some, Option.isSome_none, List.append_nil, List.nil_append, List.cons_append, Nat.zero_add, Nat.add_zero, eq_self, Int.cast_ofNat_Int, Int.reduceEq, Int.reduceNe, Int.reduceLT, Int.reduceLE, Int.reduceNeg, Int.reduceAdd, Int.reduceSub, Int.reduceMul, b_count_wrong, pc, wr, Bool.false_and]
    · simp only [bind_ok, bindN_ok, toS_ok, lift_some, sK_ap, sV_ap, s2_ap, sF_ap, aNil_ap, aCons_ap, sTup_ap, sLst_ap, sLstM_ap, sNeg_ap, sIf_ap, sCl_ap, sKget_ap, sKgetI_ap, sKin_ap, sKnin_ap, sIsi_ap, sCh_ap, sFK_ap, sMt_ap, sNot_ap, sAnd_ap, sOr_ap, tB_ap, tT_ap, tNot_ap, tAnd_ap, tOr_ap, oNo_ap, oSo_ap, sSl_ap, sIt_ap, sEnm_ap, sRg1_ap, sRg2_ap, xSeq_ap, xNil_ap, xRet_ap, xRetN_ap, xExp_ap, xSet_ap, xAsg_ap, xPar_ap, xPar3_ap, xIf_ap, xPut_ap, xFor_ap, gN_ap, gsN_ap, gsC_ap, gT_ap, add_ii, sub_ii, lt_ii, le_ii, gt_ii, ge_ii, eq_ii, ne_ii, eq_ss, ne_ss, mkT_ap, allD_nil, allD_d, items_tup, items_lst, walk_lst, walk_tup, walk_s, froz_tup, froz_lst, tru_bl, tru_int, tru_no, len_tup, len_lst, len_s, min_ii, max_ii, int_bl, int_in, tuple_tup, tuple_lst, tyN_int, tyN_tup, tyN_str, kit_ib, kit_ii, kit_tt, kit_st, kit_it, enum_nil, enum_cons, for_nil, List.getElem?_cons_zero, List.getElem?_cons_succ, List.set_cons_zero, List.set_cons_succ, List.length_cons, List.length_nil, Option.map_some, Option.bind_some, Bool.not_true, Bool.not_false, decide_true, decide_false, decide_eq_true_eq, if_true, if_false, Bool.false_eq_true, Nat.reduceAdd, Nat.reduceSub, Nat.reduceLeDiff, Nat.reduceMul, Nat.reduceLT, Nat.reduceEqDiff, reduceIte, Bool.true_eq_false, and_true, true_and, and_self, Option.isSome_some, Option.isSome_none, List.append_nil, List.nil_append, List.cons_append, Nat.zero_add, Nat.add_zero, eq_self, Int.cast_ofNat_Int, Int.reduceEq, Int.reduceNe, Int.reduceLT, Int.reduceLE, Int.reduceNeg, Int.reduceAdd, Int.reduceSub, Int.reduceMul, b_first_wrong, pc, wr, Bool.false_and]
    · rw [tr st, found_0 (qc rfl).1 q1o (qc rfl).2 q2o]
      rfl
end
end K44

set_option maxHeartbeats 4000000
namespace K44
open PySem PySem.Spec PyProof.Rows L2 Vi
theorem lcL_coll {t : SG} {c : ST} {e : SE} {env : Ev} (I : List Va → Sto → Prop) (Q : Int → Prop) (step : ∀ x xs st, I (x :: xs) st → ∃ e1 s1 y s, t x env st = some e1 ∧ c e1 st = .ok true s1 ∧ e e1 s1 = .ok (.d (.int y)) s ∧ Q y ∧ I xs s) : ∀ xs st, I xs st → ∃ (ys : List Int) (s : Sto), lcL t c e env xs st = .ok ((ys.map PyData.int).map Va.d) s ∧ ys.length = xs.length ∧ (∀ y ∈ ys, Q y) ∧ I [] s
  | [], st, h => ⟨[], st, rfl, rfl, fun y hy => (List.not_mem_nil hy).elim, h⟩
  | x :: xs, st, h => by
    obtain ⟨e1, s1, y, s, h1, h2, h3, hq, h4⟩ := step x xs st h
    obtain ⟨ys, s', k1, k2, k3, k4⟩ := lcL_coll I Q step xs s h4
    refine ⟨y :: ys, s', ?_, by simp [k2], fun z hz => (List.mem_cons.mp hz).elim (fun q => by rw [q]; exact hq) (k3 z), k4⟩
    show (match t x env st with
      | none => Res.bad
      | some e1 => bindN (c e1 st) fun k s => if k = true then bindN (e e1 s) fun v s => (lcL t c e env xs s).bind fun vs s => .ok (v :: vs) s else lcL t c e env xs s) = _
    rw [h1]
    show bindN (c e1 st) _ = _
    rw [h2]
    show bindN (e e1 s1) _ = _
    rw [h3]
    show (lcL t c e env xs s).bind _ = _
    rw [k1]
    rfl
theorem five_wd {ys : List Int} (hl : ys.length = 5) (hr : ∀ y ∈ ys, 2 ≤ y ∧ y ≤ 5) : ∃ a b c d e, srtI ys = [a, b, c, d, e] ∧ Wd a b c d e ∧ e ≤ 5 := by
  have pm := srtI_perm ys
  have sd := srtI_srt ys
  have len : (srtI ys).length = 5 := pm.length_eq.trans hl
  have mem : ∀ y ∈ srtI ys, 2 ≤ y ∧ y ≤ 5 := fun y hy => hr y (pm.mem_iff.mp hy)
  match h : srtI ys, len with
  | [a, b, c, d, e], _ =>
    rw [h] at sd mem
    simp only [List.pairwise_cons, List.mem_cons, List.not_mem_nil, or_false, forall_eq_or_imp, forall_eq] at sd
    exact ⟨a, b, c, d, e, rfl, ⟨(mem a (by simp)).1, sd.1.1, sd.2.1.1, sd.2.2.1.1, sd.2.2.2.1, Int.le_trans (mem e (by simp)).2 (by decide)⟩, (mem e (by simp)).2⟩
theorem su_at {st : Sto} {v : Int} (h0 : 0 ≤ v) (h1 : v < 2) : ∃ pl : Str, (pl = "s" ∨ pl = "u") ∧ oIx (.d (.str "su")) (.d (.int v)) st = some (.d (.str pl), st) := by
  have h : v = 0 ∨ v = 1 := by omega
  rcases h with rfl | rfl
  · exact ⟨"s", .inl rfl, by kernel_rfl⟩
  · exact ⟨"u", .inr rfl, by kernel_rfl⟩

theorem lab_at {st : Sto} {v : Int} (h0 : 0 ≤ v) (h1 : v < 11) : ∃ z ∈ labs, oIx (.d (.list (labs.map PyData.str))) (.d (.int v)) st = some (.d (.str z), st) := by
  obtain ⟨k, rfl⟩ : ∃ k : Nat, v = (k : Int) := ⟨v.toNat, by omega⟩
  have hk : k < labs.length := by show k < 11; omega
  refine ⟨labs[k], List.getElem_mem hk, ix_lstN ?_⟩
  rw [List.getElem?_map, List.getElem?_eq_getElem hk]
  rfl
theorem book_shw {a b c d e : Int} {pl : Str} (W : Wd a b c d e) (he : e ≤ 5) (hp : pl = "s" ∨ pl = "u") : Shw (sch (wds a b c d e) pl) := by
  obtain ⟨w0, w1, w2, w3, w4, w5⟩ := W
  have big : (10 : Nat) < 10 ^ 100 := by decide +kernel
  have sm : ∀ x : Int, 2 ≤ x → x ≤ 5 → x.natAbs < 10 ^ 100 := fun x h1 h2 => Nat.lt_trans (by omega) big
  rcases hp with rfl | rfl
  · refine shw_any ?_ (by kernel_rfl) (Nat.le_of_ble_eq_true (by kernel_rfl)) (Nat.le_of_ble_eq_true (by kernel_rfl))
    simp only [AllI, AllIs, and_true]
    exact ⟨sm a (by omega) (by omega), sm b (by omega) (by omega), sm c (by omega) (by omega), sm d (by omega) (by omega), sm e (by omega) (by omega)⟩
  · refine shw_any ?_ (by kernel_rfl) (Nat.le_of_ble_eq_true (by kernel_rfl)) (Nat.le_of_ble_eq_true (by kernel_rfl))
    simp only [AllI, AllIs, and_true]
    exact ⟨sm a (by omega) (by omega), sm b (by omega) (by omega), sm c (by omega) (by omega), sm d (by omega) (by omega), sm e (by omega) (by omega)⟩
abbrev rightB : SS := (xSeq (xPar 4 5 (aCons (s2 oIx (sF F__law_kinds aNil) (sF F__law_draw (aCons (sV 0) (aCons (sK (.int 11)) (aNil))))) (aCons (s2 oIx (sF F__law_kinds aNil) (sF F__law_draw (aCons (sV 0) (aCons (sK (.int 11)) (aNil))))) (aNil)))) (xSeq (xSet 6 (sF F__law_tried (aCons (sV 1) (aCons (sV 4) (aCons (sV 5) (aNil)))))) (xSeq (xSet 7 (sLst (aCons (sF F_count_wrong (aCons (sV 1) (aCons (sV 4) (aCons (sV 5) (aNil))))) (aCons (sF F_first_wrong (aCons (sV 1) (aCons (sV 4) (aCons (sV 5) (aNil))))) (aNil))))) (xSeq (xIf (tOr (tB (s2 oNe (sCl cRepr (aCons (sV 7) (aNil))) (sCl cRepr (aCons (sV 6) (aNil))))) (tB (s2 oNe (sCl cRepr (aCons (sV 1) (aNil))) (sV 2)))) (xRet (sK (.bool false))) (xNil)) (xSeq (xSet 7 (sLst (aCons (sFK F_count_wrong 0 3 [2, 1, 0] aNil (aCons (sV 5) (aCons (sV 4) (aCons (sV 1) (aNil))))) (aCons (sFK F_first_wrong 0 3 [2, 1, 0] aNil (aCons (sV 5) (aCons (sV 4) (aCons (sV 1) (aNil))))) (aNil))))) (xIf (tB (s2 oNe (sCl cRepr (aCons (sV 7) (aNil))) (sCl cRepr (aCons (sV 6) (aNil))))) (xRet (sK (.bool false))) (xNil)))))))
abbrev lcE : SE := (s2 oAdd (sK (.int 2)) (sF F__law_draw (aCons (sV 0) (aCons (s2 oSub (sK (.int 4)) (sCl cInt (aCons (s2 oLt (sV 8) (sK (.int 3))) (aNil)))) (aNil)))))
section
variable {a b c d e : Int} {pl : Str}
theorem turns_ok (W : Wd a b c d e) (he : e ≤ 5) (hp : pl = "s" ∨ pl = "u") {i bb : Nat} (t : Sto) (R : Rng t i (bb + 24)) : ∃ w3 w4 w5 w6 w7 w8 s, forL (gN 3) rightB (rngL 0 (12 : Int).toNat) [some (.r i), some (.d (sch (wds a b c d e) pl)), some (.d (.str (sch (wds a b c d e) pl).shown)), none, none, none, none, none, none] t = .ok (.nx [some (.r i), some (.d (sch (wds a b c d e) pl)), some (.d (.str (sch (wds a b c d e) pl).shown)), w3, w4, w5, w6, w7, w8]) s ∧ Rng s i bb := by
  have y2 : 2 ≤ sizeLine := by decide
  have pk : ∀ x y z : Va, pick [2, 1, 0] [x, y, z] = [z, y, x] := fun _ _ _ => rfl
  have rb := fun st => repr_d (st := st) (book_shw W he hp) rfl
  obtain ⟨ee, s, h1, R', w3, w4, w5, w6, w7, w8, rfl⟩ := forL_inv (t := gN 3) (b := rightB) (fun xs env s => Rng s i (bb + 2 * xs.length) ∧ ∃ w3 w4 w5 w6 w7 w8, env = [some (.r i), some (.d (sch (wds a b c d e) pl)), some (.d (.str (sch (wds a b c d e) pl).shown)), w3, w4, w5, w6, w7, w8]) (by
    rintro x xs env s ⟨R, w3, w4, w5, w6, w7, w8, rfl⟩
    obtain ⟨k1, s1, d1, p1, p1', g1, R1⟩ := draw_ok s i (bb + 2 * xs.length + 1) 11 (R.less (by simp; omega)) (by decide) (by decide)
    obtain ⟨k2, s2, d2, p2, p2', g2, R2⟩ := draw_ok s1 i (bb + 2 * xs.length) 11 R1 (by decide) (by decide)
    obtain ⟨z1, hz1, x1⟩ := lab_at (st := s1) p1 p1'
    obtain ⟨z2, hz2, x2⟩ := lab_at (st := s2) p2 p2'
    obtain ⟨n, f, q1, q2, q3, sh⟩ := pair_ok W he hp hz1 hz2
    have rp := fun st => repr_d (st := st) sh rfl
    refine ⟨[some (.r i), some (.d (sch (wds a b c d e) pl)), some (.d (.str (sch (wds a b c d e) pl).shown)), some x, w4, w5, w6, w7, w8], [some (.r i), some (.d (sch (wds a b c d e) pl)), some (.d (.str (sch (wds a b c d e) pl).shown)), some x, some (.d (.str z1)), some (.d (.str z2)), some (.d (.list [.int n, f])), some (.d (.list [.int n, f])), w8], s2, rfl, ?_, R2, _, _, _, _, _, _, rfl⟩
    generalize (sch (wds a b c d e) pl).shown = bs at *
    simp only [bind_ok, bindN_ok, toS_ok, lift_some, sK_ap, sV_ap, s2_ap, sF_ap, aNil_ap, aCons_ap, sTup_ap, sLst_ap, sLstM_ap, sNeg_ap, sIf_ap, sCl_ap, sKget_ap, sKgetI_ap, sKin_ap, sKnin_ap, sIsi_ap, sCh_ap, sFK_ap, sMt_ap, sNot_ap, sAnd_ap, sOr_ap, tB_ap, tT_ap, tNot_ap, tAnd_ap, tOr_ap, oNo_ap, oSo_ap, sSl_ap, sIt_ap, sEnm_ap, sRg1_ap, sRg2_ap, xSeq_ap, xNil_ap, xRet_ap, xRetN_ap, xExp_ap, xSet_ap, xAsg_ap, xPar_ap, xPar3_ap, xIf_ap, xPut_ap, xFor_ap, gN_ap, gsN_ap, gsC_ap, gT_ap, add_ii, sub_ii, lt_ii, le_ii, gt_ii, ge_ii, eq_ii, ne_ii, eq_ss, ne_ss, mkT_ap, allD_nil, allD_d, items_tup, items_lst, walk_lst, walk_tup, walk_s, froz_tup, froz_lst, tru_bl, tru_int, tru_no, len_tup, len_lst, len_s, min_ii, max_ii, int_bl, int_in, tuple_tup, tuple_lst, tyN_int, tyN_tup, tyN_str, kit_ib, kit_ii, kit_tt, kit_st, kit_it, enum_nil, enum_cons, for_nil, List.getElem?_cons_zero, List.getElem?_cons_succ, List.set_cons_zero, List.set_cons_succ, List.length_cons, List.length_nil, Option.map_some, Option.bind_some, Bool.not_true, Bool.not_false, decide_true, decide_false, decide_eq_true_eq, if_true, if_false, Bool.false_eq_true, Nat.reduceAdd, Nat.reduceSub, Nat.reduceLeDiff, Nat.reduceMul, Nat.reduceLT, Nat.reduceEqDiff, reduceIte, Bool.true_eq_false, and_true, true_and, and_self, Option.isSome_some, Option.isSome_none, List.append_nil, List.nil_append, List.cons_append, Nat.zero_add, Nat.add_zero, eq_self, Int.cast_ofNat_Int, Int.reduceEq, Int.reduceNe, Int.reduceLT, Int.reduceLE, Int.reduceNeg, Int.reduceAdd, Int.reduceSub, Int.reduceMul, rightB, kinds_ok, d1, x1, d2, x2, q1, q2, q3, rp, rb, y2, pk]) (rngL 0 (12 : Int).toNat) [some (.r i), some (.d (sch (wds a b c d e) pl)), some (.d (.str (sch (wds a b c d e) pl).shown)), none, none, none, none, none, none] t ⟨R, none, none, none, none, none, none, rfl⟩
  exact ⟨w3, w4, w5, w6, w7, w8, s, h1, R'⟩
end
end K44

set_option maxHeartbeats 4000000
namespace K44
open PySem PySem.Spec PyProof.Rows L2 Vi
theorem right_ok {i bb : Nat} (st : Sto) (R : Rng st i (bb + 30)) : ∃ s, F__law_right [.r i] st = .ok (.d (.bool true)) s ∧ Rng s i bb := by
  have hin := R.lt
  have R0 : Rng ⟨st.obs, st.n⟩ i (bb + 30) := R.in
  suffices hs : ∃ s, b__law_right [some (.r i), none, none, none, none, none, none, none, none] ⟨st.obs, st.n⟩ = .ok (.rt (.d (.bool true))) s ∧ Rng s i bb by
    obtain ⟨s, h1, h3⟩ := hs
    exact ⟨_, dF_rt rfl h1 rfl, h3.cut hin⟩
  generalize (⟨st.obs, st.n⟩ : Sto) = t0 at R0 ⊢
  clear R
  have y2 : 2 ≤ sizeLine := by decide
  obtain ⟨ys, t2, cc, yl, yr, R2, _⟩ := lcL_coll (t := gN 8) (c := tY) (e := lcE) (env := wipeE [some (.r i), none, none, none, none, none, none, none, none] [8])
    (fun xs s => Rng s i (bb + 25 + xs.length) ∧ ∃ rs : List Int, xs = (rs.map PyData.int).map .d) (fun y => 2 ≤ y ∧ y ≤ 5) (by
      rintro x xs s ⟨R, rs, hxs⟩
      cases rs with
      | nil => cases hxs
      | cons r rs =>
        cases hxs
        obtain ⟨lim, hlim, l0, l1⟩ : ∃ lim : Int, lim = 4 - (if r < 3 then 1 else 0) ∧ 0 < lim ∧ lim ≤ 4 := ⟨_, rfl, by split <;> decide, by split <;> decide⟩
        obtain ⟨k, s', dk, k0, k1, g', R'⟩ := draw_ok s i (bb + 25 + ((rs.map PyData.int).map Va.d).length) lim (R.less (by simp; omega)) l0 (Int.lt_of_le_of_lt l1 (by decide))
        refine ⟨[some (.r i), none, none, none, none, none, none, none, some (.d (.int r))], s, 2 + k, s', rfl, rfl, ?_, by omega, R', rs, rfl⟩
        subst hlim
        by_cases q : r < 3
        · simp only [q, if_true] at dk
          have dk : F__law_draw [.r i, .d (.int 3)] s = .ok (.d (.int k)) s' := dk
          simp only [bind_ok, bindN_ok, toS_ok, lift_some, sK_ap, sV_ap, s2_ap, sF_ap, aNil_ap, aCons_ap, sTup_ap, sLst_ap, sLstM_ap, sNeg_ap, sIf_ap, sCl_ap, sKget_ap, sKgetI_ap, sKin_ap, sKnin_ap, sIsi_ap, sCh_ap, sFK_ap, sMt_ap, sNot_ap, sAnd_ap, sOr_ap, tB_ap, tT_ap, tNot_ap, tAnd_ap, tOr_ap, oNo_ap, oSo_ap, sSl_ap, sIt_ap, sEnm_ap, sRg1_ap, sRg2_ap, xSeq_ap, xNil_ap, xRet_ap, xRetN_ap, xExp_ap, xSet_ap, xAsg_ap, xPar_ap, xPar3_ap, xIf_ap, xPut_ap, xFor_ap, gN_ap, gsN_ap, gsC_ap, gT_ap, add_ii, sub_ii, lt_ii, le_ii, gt_ii, ge_ii, eq_ii, ne_ii, eq_ss, ne_ss, mkT_ap, allD_nil, allD_d, items_tup, items_lst, walk_lst, walk_tup, walk_s, froz_tup, froz_lst, tru_bl, tru_int, tru_no, len_tup, len_lst, len_s, min_ii, max_ii, int_bl, int_in, tuple_tup, tuple_lst, tyN_int, tyN_tup, tyN_str, kit_ib, kit_ii, kit_tt, kit_st, kit_it, enum_nil, enum_cons, for_nil, List.getElem?_cons_zero, List.getElem?_cons_succ, List.set_cons_zero, List.set_cons_succ, List.length_cons, List.length_nil, Option.map_some, Option.bind_some, Bool.not_true, Bool.not_false, decide_true, decide_false, decide_eq_true_eq, if_true, if_false, Bool.false_eq_true, Nat.reduceAdd, Nat.reduceSub, Nat.reduceLeDiff, Nat.reduceMul, Nat.reduceLT, Nat.reduceEqDiff, reduceIte, Bool.true_eq_false, and_true, true_and, and_self, Option.isSome_some, Option.isSome_none, List.append_nil, List.nil_append, List.cons_append, Nat.zero_add, Nat.add_zero, eq_self, Int.cast_ofNat_Int, Int.reduceEq, Int.reduceNe, Int.reduceLT, Int.reduceLE, Int.reduceNeg, Int.reduceAdd, Int.reduceSub, Int.reduceMul, lcE, q, dk]
        · simp only [q, if_false] at dk
          have dk : F__law_draw [.r i, .d (.int 4)] s = .ok (.d (.int k)) s' := dk
          simp only [bind_ok, bindN_ok, toS_ok, lift_some, sK_ap, sV_ap, s2_ap, sF_ap, aNil_ap, aCons_ap, sTup_ap, sLst_ap, sLstM_ap, sNeg_ap, sIf_ap, sCl_ap, sKget_ap, sKgetI_ap, sKin_ap, sKnin_ap, sIsi_ap, sCh_ap, sFK_ap, sMt_ap, sNot_ap, sAnd_ap, sOr_ap, tB_ap, tT_ap, tNot_ap, tAnd_ap, tOr_ap, oNo_ap, oSo_ap, sSl_ap, sIt_ap, sEnm_ap, sRg1_ap, sRg2_ap, xSeq_ap, xNil_ap, xRet_ap, xRetN_ap, xExp_ap, xSet_ap, xAsg_ap, xPar_ap, xPar3_ap, xIf_ap, xPut_ap, xFor_ap, gN_ap, gsN_ap, gsC_ap, gT_ap, add_ii, sub_ii, lt_ii, le_ii, gt_ii, ge_ii, eq_ii, ne_ii, eq_ss, ne_ss, mkT_ap, allD_nil, allD_d, items_tup, items_lst, walk_lst, walk_tup, walk_s, froz_tup, froz_lst, tru_bl, tru_int, tru_no, len_tup, len_lst, len_s, min_ii, max_ii, int_bl, int_in, tuple_tup, tuple_lst, tyN_int, tyN_tup, tyN_str, kit_ib, kit_ii, kit_tt, kit_st, kit_it, enum_nil, enum_cons, for_nil, List.getElem?_cons_zero, List.getElem?_cons_succ, List.set_cons_zero, List.set_cons_succ, List.length_cons, List.length_nil, Option.map_some, Option.bind_some, Bool.not_true, Bool.not_false, decide_true, decide_false, decide_eq_true_eq, if_true, if_false, Bool.false_eq_true, Nat.reduceAdd, Nat.reduceSub, Nat.reduceLeDiff, Nat.reduceMul, Nat.reduceLT, Nat.reduceEqDiff, reduceIte, Bool.true_eq_false, and_true, true_and, and_self, Option.isSome_some, Option.isSome_none, List.append_nil, List.nil_append, List.cons_append, Nat.zero_add, Nat.add_zero, eq_self, Int.cast_ofNat_Int, Int.reduceEq, Int.reduceNe, Int.reduceLT, Int.reduceLE, Int.reduceNeg, Int.reduceAdd, Int.reduceSub, Int.reduceMul, lcE, q, dk])
    (rngL 0 (5 : Int).toNat) t0 ⟨R0.less (by rw [rngL_len]; show bb + 25 + 5 ≤ _; omega), rngI 0 5, rngL_I 0 5⟩
  have yl : ys.length = 5 := yl
  have R2 : Rng t2 i (bb + 25) := R2
  obtain ⟨a, b, c, d, e, hs, W, he⟩ := five_wd yl yr
  obtain ⟨k8, t8, d8, p8, p8', g8, R8⟩ := draw_ok t2 i (bb + 24) 2 R2 (by decide) (by decide)
  obtain ⟨pl, hp, x8⟩ := su_at (st := t8) p8 p8'
  obtain ⟨w3, w4, w5, w6, w7, w8, s, run, R9⟩ := turns_ok W he hp t8 R8
  have bd : -(2 ^ 62) ≤ (5 : Int) ∧ (5 : Int) < 2 ^ 62 := by decide
  have bd2 : -(2 ^ 62) ≤ (12 : Int) ∧ (12 : Int) < 2 ^ 62 := by decide
  have lcs : sLc (sRg1 (aCons (sK (.int 5)) (aNil))) (gN 8) (tY) lcE [8] [some (.r i), none, none, none, none, none, none, none, none] t0 = .ok (.d (.list (ys.map PyData.int))) t2 := by
    have z : (rngL 0 (5 : Int).toNat).length < sizeLine := by rw [rngL_len]; decide
    unfold sLc lcR
    simp only [bind_ok, bindN_ok, toS_ok, lift_some, sK_ap, sV_ap, s2_ap, sF_ap, aNil_ap, aCons_ap, sTup_ap, sLst_ap, sLstM_ap, sNeg_ap, sIf_ap, sCl_ap, sKget_ap, sKgetI_ap, sKin_ap, sKnin_ap, sIsi_ap, sCh_ap, sFK_ap, sMt_ap, sNot_ap, sAnd_ap, sOr_ap, tB_ap, tT_ap, tNot_ap, tAnd_ap, tOr_ap, oNo_ap, oSo_ap, sSl_ap, sIt_ap, sEnm_ap, sRg1_ap, sRg2_ap, xSeq_ap, xNil_ap, xRet_ap, xRetN_ap, xExp_ap, xSet_ap, xAsg_ap, xPar_ap, xPar3_ap, xIf_ap, xPut_ap, xFor_ap, gN_ap, gsN_ap, gsC_ap, gT_ap, add_ii, sub_ii, lt_ii, le_ii, gt_ii, ge_ii, eq_ii, ne_ii, eq_ss, ne_ss, mkT_ap, allD_nil, allD_d, items_tup, items_lst, walk_lst, walk_tup, walk_s, froz_tup, froz_lst, tru_bl, tru_int, tru_no, len_tup, len_lst, len_s, min_ii, max_ii, int_bl, int_in, tuple_tup, tuple_lst, tyN_int, tyN_tup, tyN_str, kit_ib, kit_ii, kit_tt, kit_st, kit_it, enum_nil, enum_cons, for_nil, List.getElem?_cons_zero, List.getElem?_cons_succ, List.set_cons_zero, List.set_cons_succ, List.length_cons, List.length_nil, Option.map_some, Option.bind_some, Bool.not_true, Bool.not_false, decide_true, decide_false, decide_eq_true_eq, if_true, if_false, Bool.false_eq_true, Nat.reduceAdd, Nat.reduceSub, Nat.reduceLeDiff, Nat.reduceMul, Nat.reduceLT, Nat.reduceEqDiff, reduceIte, Bool.true_eq_false, and_true, true_and, and_self, Option.isSome_some, Option.isSome_none, List.append_nil, List.nil_append, List.cons_append, Nat.zero_add, Nat.add_zero, eq_self, Int.cast_ofNat_Int, Int.reduceEq, Int.reduceNe, Int.reduceLT, Int.reduceLE, Int.reduceNeg, Int.reduceAdd, Int.reduceSub, Int.reduceMul, bd, z, cc, allD_map]
  have srt : cSrt [.d (.list (ys.map PyData.int))] t2 = some (.d (.list ((srtI ys).map PyData.int)), t2) := by
    show (some (ys.map PyData.int)).bind (fun ds => (intsD ds).map fun ns => (Va.d (.list ((srtI ns).map PyData.int)), t2)) = _
    rw [Option.bind_some, intsD_map]
    rfl
  rw [hs] at srt
  refine ⟨s, ?_, R9⟩
  refine xSeq_nx (e := [some (.r i), some (.d (sch (wds a b c d e) pl)), none, none, none, none, none, none, none]) (s := t8) ?_ ?_
  · simp only [bind_ok, bindN_ok, toS_ok, lift_some, sK_ap, sV_ap, s2_ap, sF_ap, aNil_ap, aCons_ap, sTup_ap, sLst_ap, sLstM_ap, sNeg_ap, sIf_ap, sCl_ap, sKget_ap, sKgetI_ap, sKin_ap, sKnin_ap, sIsi_ap, sCh_ap, sFK_ap, sMt_ap, sNot_ap, sAnd_ap, sOr_ap, tB_ap, tT_ap, tNot_ap, tAnd_ap, tOr_ap, oNo_ap, oSo_ap, sSl_ap, sIt_ap, sEnm_ap, sRg1_ap, sRg2_ap, xSeq_ap, xNil_ap, xRet_ap, xRetN_ap, xExp_ap, xSet_ap, xAsg_ap, xPar_ap, xPar3_ap, xIf_ap, xPut_ap, xFor_ap, gN_ap, gsN_ap, gsC_ap, gT_ap, add_ii, sub_ii, lt_ii, le_ii, gt_ii, ge_ii, eq_ii, ne_ii, eq_ss, ne_ss, mkT_ap, allD_nil, allD_d, items_tup, items_lst, walk_lst, walk_tup, walk_s, froz_tup, froz_lst, tru_bl, tru_int, tru_no, len_tup, len_lst, len_s, min_ii, max_ii, int_bl, int_in, tuple_tup, tuple_lst, tyN_int, tyN_tup, tyN_str, kit_ib, kit_ii, kit_tt, kit_st, kit_it, enum_nil, enum_cons, for_nil, List.getElem?_cons_zero, List.getElem?_cons_succ, List.set_cons_zero, List.set_cons_succ, List.length_cons, List.length_nil, Option.map_some, Option.bind_some, Bool.not_true, Bool.not_false, decide_true, decide_false, decide_eq_true_eq, if_true, if_false, Bool.false_eq_true, Nat.reduceAdd, Nat.reduceSub, Nat.reduceLeDiff, Nat.reduceMul, Nat.reduceLT, Nat.reduceEqDiff, reduceIte, Bool.true_eq_false, and_true, true_and, and_self, Option.isSome_some, Option.isSome_none, List.append_nil, List.nil_append, List.cons_append, Nat.zero_add, Nat.add_zero, eq_self, Int.cast_ofNat_Int, Int.reduceEq, Int.reduceNe, Int.reduceLT, Int.reduceLE, Int.reduceNeg, Int.reduceAdd, Int.reduceSub, Int.reduceMul, lcs, srt, d8, x8, y2, List.map_cons, List.map_nil]
  refine xSeq_nx (e := [some (.r i), some (.d (sch (wds a b c d e) pl)), some (.d (.str (sch (wds a b c d e) pl).shown)), none, none, none, none, none, none]) (s := t8) ?_ ?_
  · have rb := repr_d (st := t8) (book_shw W he hp) rfl
    generalize (sch (wds a b c d e) pl).shown = bs at *
    simp only [bind_ok, bindN_ok, toS_ok, lift_some, sK_ap, sV_ap, s2_ap, sF_ap, aNil_ap, aCons_ap, sTup_ap, sLst_ap, sLstM_ap, sNeg_ap, sIf_ap, sCl_ap, sKget_ap, sKgetI_ap, sKin_ap, sKnin_ap, sIsi_ap, sCh_ap, sFK_ap, sMt_ap, sNot_ap, sAnd_ap, sOr_ap, tB_ap, tT_ap, tNot_ap, tAnd_ap, tOr_ap, oNo_ap, oSo_ap, sSl_ap, sIt_ap, sEnm_ap, sRg1_ap, sRg2_ap, xSeq_ap, xNil_ap, xRet_ap, xRetN_ap, xExp_ap, xSet_ap, xAsg_ap, xPar_ap, xPar3_ap, xIf_ap, xPut_ap, xFor_ap, gN_ap, gsN_ap, gsC_ap, gT_ap, add_ii, sub_ii, lt_ii, le_ii, gt_ii, ge_ii, eq_ii, ne_ii, eq_ss, ne_ss, mkT_ap, allD_nil, allD_d, items_tup, items_lst, walk_lst, walk_tup, walk_s, froz_tup, froz_lst, tru_bl, tru_int, tru_no, len_tup, len_lst, len_s, min_ii, max_ii, int_bl, int_in, tuple_tup, tuple_lst, tyN_int, tyN_tup, tyN_str, kit_ib, kit_ii, kit_tt, kit_st, kit_it, enum_nil, enum_cons, for_nil, List.getElem?_cons_zero, List.getElem?_cons_succ, List.set_cons_zero, List.set_cons_succ, List.length_cons, List.length_nil, Option.map_some, Option.bind_some, Bool.not_true, Bool.not_false, decide_true, decide_false, decide_eq_true_eq, if_true, if_false, Bool.false_eq_true, Nat.reduceAdd, Nat.reduceSub, Nat.reduceLeDiff, Nat.reduceMul, Nat.reduceLT, Nat.reduceEqDiff, reduceIte, Bool.true_eq_false, and_true, true_and, and_self, Option.isSome_some, Option.isSome_none, List.append_nil, List.nil_append, List.cons_append, Nat.zero_add, Nat.add_zero, eq_self, Int.cast_ofNat_Int, Int.reduceEq, Int.reduceNe, Int.reduceLT, Int.reduceLE, Int.reduceNeg, Int.reduceAdd, Int.reduceSub, Int.reduceMul, rb]
  refine xSeq_nx (e := [some (.r i), some (.d (sch (wds a b c d e) pl)), some (.d (.str (sch (wds a b c d e) pl).shown)), w3, w4, w5, w6, w7, w8]) (s := s) ?_ rfl
  rw [← run]
  simp only [bind_ok, bindN_ok, toS_ok, lift_some, sK_ap, sV_ap, s2_ap, sF_ap, aNil_ap, aCons_ap, sTup_ap, sLst_ap, sLstM_ap, sNeg_ap, sIf_ap, sCl_ap, sKget_ap, sKgetI_ap, sKin_ap, sKnin_ap, sIsi_ap, sCh_ap, sFK_ap, sMt_ap, sNot_ap, sAnd_ap, sOr_ap, tB_ap, tT_ap, tNot_ap, tAnd_ap, tOr_ap, oNo_ap, oSo_ap, sSl_ap, sIt_ap, sEnm_ap, sRg1_ap, sRg2_ap, xSeq_ap, xNil_ap, xRet_ap, xRetN_ap, xExp_ap, xSet_ap, xAsg_ap, xPar_ap, xPar3_ap, xIf_ap, xPut_ap, xFor_ap, gN_ap, gsN_ap, gsC_ap, gT_ap, add_ii, sub_ii, lt_ii, le_ii, gt_ii, ge_ii, eq_ii, ne_ii, eq_ss, ne_ss, mkT_ap, allD_nil, allD_d, items_tup, items_lst, walk_lst, walk_tup, walk_s, froz_tup, froz_lst, tru_bl, tru_int, tru_no, len_tup, len_lst, len_s, min_ii, max_ii, int_bl, int_in, tuple_tup, tuple_lst, tyN_int, tyN_tup, tyN_str, kit_ib, kit_ii, kit_tt, kit_st, kit_it, enum_nil, enum_cons, for_nil, List.getElem?_cons_zero, List.getElem?_cons_succ, List.set_cons_zero, List.set_cons_succ, List.length_cons, List.length_nil, Option.map_some, Option.bind_some, Bool.not_true, Bool.not_false, decide_true, decide_false, decide_eq_true_eq, if_true, if_false, Bool.false_eq_true, Nat.reduceAdd, Nat.reduceSub, Nat.reduceLeDiff, Nat.reduceMul, Nat.reduceLT, Nat.reduceEqDiff, reduceIte, Bool.true_eq_false, and_true, true_and, and_self, Option.isSome_some, Option.isSome_none, List.append_nil, List.nil_append, List.cons_append, Nat.zero_add, Nat.add_zero, eq_self, Int.cast_ofNat_Int, Int.reduceEq, Int.reduceNe, Int.reduceLT, Int.reduceLE, Int.reduceNeg, Int.reduceAdd, Int.reduceSub, Int.reduceMul, bd2]
abbrev turnBody : SS := (xIf (tNot (tT (sF F__law_right (aCons (sV 2) (aNil))))) (xRet (sK (.bool false))) (xNil))
abbrev lapBody : SS := (xSeq (xSet 2 (sF F__law_pool (aCons (sV 0) (aCons (sV 1) (aNil))))) (xFor (sRg1 (aCons (sK (.int 2)) (aNil))) (gN 3) turnBody))
theorem turn_ok {i bb : Nat} (st : Sto) (R : Rng st i (bb + 30)) (v0 v1 v3 v4 v5 : Option Va) : ∃ s, turnBody [v0, v1, some (.r i), v3, v4, v5] st = .ok (.nx [v0, v1, some (.r i), v3, v4, v5]) s ∧ Rng s i bb := by
  obtain ⟨s, h, R'⟩ := right_ok st R
  exact ⟨s, by simp only [bind_ok, bindN_ok, toS_ok, lift_some, sK_ap, sV_ap, s2_ap, sF_ap, aNil_ap, aCons_ap, sTup_ap, sLst_ap, sLstM_ap, sNeg_ap, sIf_ap, sCl_ap, sKget_ap, sKgetI_ap, sKin_ap, sKnin_ap, sIsi_ap, sCh_ap, sFK_ap, sMt_ap, sNot_ap, sAnd_ap, sOr_ap, tB_ap, tT_ap, tNot_ap, tAnd_ap, tOr_ap, oNo_ap, oSo_ap, sSl_ap, sIt_ap, sEnm_ap, sRg1_ap, sRg2_ap, xSeq_ap, xNil_ap, xRet_ap, xRetN_ap, xExp_ap, xSet_ap, xAsg_ap, xPar_ap, xPar3_ap, xIf_ap, xPut_ap, xFor_ap, gN_ap, gsN_ap, gsC_ap, gT_ap, add_ii, sub_ii, lt_ii, le_ii, gt_ii, ge_ii, eq_ii, ne_ii, eq_ss, ne_ss, mkT_ap, allD_nil, allD_d, items_tup, items_lst, walk_lst, walk_tup, walk_s, froz_tup, froz_lst, tru_bl, tru_int, tru_no, len_tup, len_lst, len_s, min_ii, max_ii, int_bl, int_in, tuple_tup, tuple_lst, tyN_int, tyN_tup, tyN_str, kit_ib, kit_ii, kit_tt, kit_st, kit_it, enum_nil, enum_cons, for_nil, List.getElem?_cons_zero, List.getElem?_cons_succ, List.set_cons_zero, List.set_cons_succ, List.length_cons, List.length_nil, Option.map_some, Option.bind_some, Bool.not_true, Bool.not_false, decide_true, decide_false, decide_eq_true_eq, if_true, if_false, Bool.false_eq_true, Nat.reduceAdd, Nat.reduceSub, Nat.reduceLeDiff, Nat.reduceMul, Nat.reduceLT, Nat.reduceEqDiff, reduceIte, Bool.true_eq_false, and_true, true_and, and_self, Option.isSome_some, Option.isSome_none, List.append_nil, List.nil_append, List.cons_append, Nat.zero_add, Nat.add_zero, eq_self, Int.cast_ofNat_Int, Int.reduceEq, Int.reduceNe, Int.reduceLT, Int.reduceLE, Int.reduceNeg, Int.reduceAdd, Int.reduceSub, Int.reduceMul, h], R'⟩
theorem lap_ok (ns : List Int) (k : Nat) (hk : k ≤ 10) (st : Sto) (v2 v3 v4 v5 : Option Va) : ∃ s v2' v3', lapBody [some (.s ns), some (.d (.int (k : Nat))), v2, v3, v4, v5] st = .ok (.nx [some (.s ns), some (.d (.int (k : Nat))), v2', v3', v4, v5]) s := by
  obtain ⟨D, S, r1, hD, hS, hS2⟩ := pool_ok ns k hk st
  have R1 : Rng (st.push (.l [.d (.int D), .d (.int S), .d (.int 0)])) st.n 60 := ⟨D, S, 0, At.push, hD, hS, hS2, by decide, by decide⟩
  obtain ⟨s1, k1, R2⟩ := turn_ok (bb := 30) _ R1 (some (.s ns)) (some (.d (.int (k : Nat)))) (some (.d (.int 0))) v4 v5
  obtain ⟨s2, k2, R3⟩ := turn_ok (bb := 0) _ R2 (some (.s ns)) (some (.d (.int (k : Nat)))) (some (.d (.int 1))) v4 v5
  have rg : rngL 0 (2 : Int).toNat = [.d (.int 0), .d (.int 1)] := rfl
  have bd : -(2 ^ 62) ≤ (2 : Int) ∧ (2 : Int) < 2 ^ 62 := by decide
  refine ⟨s2, some (.r st.n), some (.d (.int 1)), xSeq_nx (e := [some (.s ns), some (.d (.int (k : Nat))), some (.r st.n), v3, v4, v5]) (s := st.push (.l [.d (.int D), .d (.int S), .d (.int 0)])) (by simp only [bind_ok, bindN_ok, toS_ok, lift_some, sK_ap, sV_ap, s2_ap, sF_ap, aNil_ap, aCons_ap, sTup_ap, sLst_ap, sLstM_ap, sNeg_ap, sIf_ap, sCl_ap, sKget_ap, sKgetI_ap, sKin_ap, sKnin_ap, sIsi_ap, sCh_ap, sFK_ap, sMt_ap, sNot_ap, sAnd_ap, sOr_ap, tB_ap, tT_ap, tNot_ap, tAnd_ap, tOr_ap, oNo_ap, oSo_ap, sSl_ap, sIt_ap, sEnm_ap, sRg1_ap, sRg2_ap, xSeq_ap, xNil_ap, xRet_ap, xRetN_ap, xExp_ap, xSet_ap, xAsg_ap, xPar_ap, xPar3_ap, xIf_ap, xPut_ap, xFor_ap, gN_ap, gsN_ap, gsC_ap, gT_ap, add_ii, sub_ii, lt_ii, le_ii, gt_ii, ge_ii, eq_ii, ne_ii, eq_ss, ne_ss, mkT_ap, allD_nil, allD_d, items_tup, items_lst, walk_lst, walk_tup, walk_s, froz_tup, froz_lst, tru_bl, tru_int, tru_no, len_tup, len_lst, len_s, min_ii, max_ii, int_bl, int_in, tuple_tup, tuple_lst, tyN_int, tyN_tup, tyN_str, kit_ib, kit_ii, kit_tt, kit_st, kit_it, enum_nil, enum_cons, for_nil, List.getElem?_cons_zero, List.getElem?_cons_succ, List.set_cons_zero, List.set_cons_succ, List.length_cons, List.length_nil, Option.map_some, Option.bind_some, Bool.not_true, Bool.not_false, decide_true, decide_false, decide_eq_true_eq, if_true, if_false, Bool.false_eq_true, Nat.reduceAdd, Nat.reduceSub, Nat.reduceLeDiff, Nat.reduceMul, Nat.reduceLT, Nat.reduceEqDiff, reduceIte, Bool.true_eq_false, and_true, true_and, and_self, Option.isSome_some, Option.isSome_none, List.append_nil, List.nil_append, List.cons_append, Nat.zero_add, Nat.add_zero, eq_self, Int.cast_ofNat_Int, Int.reduceEq, Int.reduceNe, Int.reduceLT, Int.reduceLE, Int.reduceNeg, Int.reduceAdd, Int.reduceSub, Int.reduceMul, r1]) ?_⟩
  have run : forL (gN 3) turnBody [.d (.int 0), .d (.int 1)] [some (.s ns), some (.d (.int (k : Nat))), some (.r st.n), v3, v4, v5] (st.push (.l [.d (.int D), .d (.int S), .d (.int 0)])) = .ok (.nx [some (.s ns), some (.d (.int (k : Nat))), some (.r st.n), some (.d (.int 1)), v4, v5]) s2 := (forL_nx rfl k1).trans ((forL_nx rfl k2).trans rfl)
  simp only [bind_ok, bindN_ok, toS_ok, lift_some, sK_ap, sV_ap, s2_ap, sF_ap, aNil_ap, aCons_ap, sTup_ap, sLst_ap, sLstM_ap, sNeg_ap, sIf_ap, sCl_ap, sKget_ap, sKgetI_ap, sKin_ap, sKnin_ap, sIsi_ap, sCh_ap, sFK_ap, sMt_ap, sNot_ap, sAnd_ap, sOr_ap, tB_ap, tT_ap, tNot_ap, tAnd_ap, tOr_ap, oNo_ap, oSo_ap, sSl_ap, sIt_ap, sEnm_ap, sRg1_ap, sRg2_ap, xSeq_ap, xNil_ap, xRet_ap, xRetN_ap, xExp_ap, xSet_ap, xAsg_ap, xPar_ap, xPar3_ap, xIf_ap, xPut_ap, xFor_ap, gN_ap, gsN_ap, gsC_ap, gT_ap, add_ii, sub_ii, lt_ii, le_ii, gt_ii, ge_ii, eq_ii, ne_ii, eq_ss, ne_ss, mkT_ap, allD_nil, allD_d, items_tup, items_lst, walk_lst, walk_tup, walk_s, froz_tup, froz_lst, tru_bl, tru_int, tru_no, len_tup, len_lst, len_s, min_ii, max_ii, int_bl, int_in, tuple_tup, tuple_lst, tyN_int, tyN_tup, tyN_str, kit_ib, kit_ii, kit_tt, kit_st, kit_it, enum_nil, enum_cons, for_nil, List.getElem?_cons_zero, List.getElem?_cons_succ, List.set_cons_zero, List.set_cons_succ, List.length_cons, List.length_nil, Option.map_some, Option.bind_some, Bool.not_true, Bool.not_false, decide_true, decide_false, decide_eq_true_eq, if_true, if_false, Bool.false_eq_true, Nat.reduceAdd, Nat.reduceSub, Nat.reduceLeDiff, Nat.reduceMul, Nat.reduceLT, Nat.reduceEqDiff, reduceIte, Bool.true_eq_false, and_true, true_and, and_self, Option.isSome_some, Option.isSome_none, List.append_nil, List.nil_append, List.cons_append, Nat.zero_add, Nat.add_zero, eq_self, Int.cast_ofNat_Int, Int.reduceEq, Int.reduceNe, Int.reduceLT, Int.reduceLE, Int.reduceNeg, Int.reduceAdd, Int.reduceSub, Int.reduceMul, bd, rg]
  exact run
theorem vd_of {F : FS} {as : List Va} {x y : PD} (h : ∀ st, F as st = .ok (.d x) st) (e : F as ⟨[], 0⟩ = .ok (.d y) ⟨[], 0⟩) : ∀ st, F as st = .ok (.d y) st := by
  have q := (h ⟨[], 0⟩).symm.trans e
  injection q with q1
  injection q1 with q2
  subst q2
  exact h
theorem law_true (ns : List Int) (h : ns.length ≤ 63) : ∃ s, F_law [.s ns] st0 = .ok (.d (.bool true)) s := by
  obtain ⟨m, hm, hm2⟩ : ∃ m : Int, m = (if (if (ns.length : Int) < 6 then (ns.length : Int) else 6) > 1 then (if (ns.length : Int) < 6 then (ns.length : Int) else 6) else 1) ∧ m ≤ 6 := ⟨_, rfl, by split <;> split <;> omega⟩
  have m0 : 0 ≤ m := by rw [hm]; split <;> split <;> omega
  obtain ⟨ee, t2, run, _, w1, w2, w3, rfl⟩ := forL_inv (t := gN 1) (b := lapBody) (fun xs env s => (∃ lo : Nat, xs = rngL (lo : Nat) xs.length ∧ lo + xs.length ≤ 6) ∧ ∃ w1 w2 w3, env = [some (.s ns), w1, w2, w3, none, none]) (by
      rintro x xs env s ⟨⟨lo, hl, hb⟩, w1, w2, w3, rfl⟩
      have hx : x = .d (.int (lo : Nat)) := by
        have : (x :: xs)[0]? = (rngL (lo : Nat) (x :: xs).length)[0]? := by rw [← hl]
        obtain ⟨_, q⟩ := rngL_get (this.symm.trans rfl : (rngL (lo : Nat) (x :: xs).length)[0]? = some x)
        rw [q]
        rfl
      subst hx
      have hxs : xs = rngL ((lo + 1 : Nat) : Nat) xs.length := by
        apply List.ext_getElem?
        intro j
        have : (Va.d (.int (lo : Nat)) :: xs)[j + 1]? = (rngL (lo : Nat) (Va.d (.int (lo : Nat)) :: xs).length)[j + 1]? := by rw [← hl]
        rw [List.getElem?_cons_succ] at this
        rw [this]
        unfold rngL
        rw [List.getElem?_map, List.getElem?_map]
        by_cases hj : j < xs.length
        · rw [List.getElem?_range (by simp; omega), List.getElem?_range hj]
          show some (Va.d (.int ((lo : Int) + ((j + 1 : Nat) : Int)))) = some (Va.d (.int (((lo + 1 : Nat) : Int) + (j : Nat))))
          rw [show (lo : Int) + ((j + 1 : Nat) : Int) = ((lo + 1 : Nat) : Int) + (j : Nat) by omega]
        · rw [List.getElem?_eq_none (by simp; omega), List.getElem?_eq_none (by simp; omega)]
          rfl
      obtain ⟨s', v2', v3', k⟩ := lap_ok ns lo (by simp at hb; omega) s w2 w3 none none
      exact ⟨_, _, s', rfl, k, ⟨lo + 1, hxs, by simp at hb; omega⟩, _, _, _, rfl⟩)
    (rngL 0 m.toNat) [some (.s ns), none, none, none, none, none] ⟨st0.obs, st0.n⟩ ⟨⟨0, by rw [rngL_len]; rfl, by rw [rngL_len]; omega⟩, none, none, none, rfl⟩
  have W : Wd 2 2 2 3 3 := ⟨by decide, by decide, by decide, by decide, by decide, by decide⟩
  obtain ⟨_, _, a1, a2, _, _⟩ := pair_ok W (by decide) (.inl rfl) (show ("int" : Str) ∈ labs by decide) (show ("uint" : Str) ∈ labs by decide)
  obtain ⟨_, _, a3, _, _, _⟩ := pair_ok W (by decide) (.inl rfl) (show ("uint" : Str) ∈ labs by decide) (show ("int" : Str) ∈ labs by decide)
  obtain ⟨_, _, a4, _, _, _⟩ := pair_ok W (by decide) (.inl rfl) (show ("uint" : Str) ∈ labs by decide) (show ("long" : Str) ∈ labs by decide)
  have c1 := vd_of (y := .int 7) a1 (by kernel_rfl)
  have c2 := vd_of (y := .tuple [.int (-2), .int 0]) a2 (by kernel_rfl)
  have c3 := vd_of (y := .int 5) a3 (by kernel_rfl)
  have c4 := vd_of (y := .int 0) a4 (by kernel_rfl)
  have ad : oAdd (.d (.list [.int 7, .tuple [.int (-2), .int 0], .int 5])) (.d (.list [.int 0])) t2 = some (.d (.list [.int 7, .tuple [.int (-2), .int 0], .int 5, .int 0]), t2) := by kernel_rfl
  have eq2 : oEq (.d (.list [.int 7, .tuple [.int (-2), .int 0], .int 5, .int 0])) (.d (.list [.int 7, .tuple [.int (-2), .int 0], .int 5, .int 0])) t2 = some (.d (.bool true), t2) := by kernel_rfl
  refine ⟨_, dF_rt rfl (s := t2) ?_ rfl⟩
  show b_law [some (.s ns), none, none, none, none, none] ⟨st0.obs, st0.n⟩ = _
  have y1 : 1 ≤ sizeLine := by decide
  have y2 : 2 ≤ sizeLine := by decide
  have y3 : 3 ≤ sizeLine := by decide
  have y4 : 4 ≤ sizeLine := by decide
  have y5 : 5 ≤ sizeLine := by decide
  have bd : -(2 ^ 62) ≤ m ∧ m < 2 ^ 62 := by omega
  refine xSeq_nx (e := [some (.s ns), w1, w2, w3, none, none]) (s := t2) ?_ ?_
  · simp only [bind_ok, bindN_ok, toS_ok, lift_some, sK_ap, sV_ap, s2_ap, sF_ap, aNil_ap, aCons_ap, sTup_ap, sLst_ap, sLstM_ap, sNeg_ap, sIf_ap, sCl_ap, sKget_ap, sKgetI_ap, sKin_ap, sKnin_ap, sIsi_ap, sCh_ap, sFK_ap, sMt_ap, sNot_ap, sAnd_ap, sOr_ap, tB_ap, tT_ap, tNot_ap, tAnd_ap, tOr_ap, oNo_ap, oSo_ap, sSl_ap, sIt_ap, sEnm_ap, sRg1_ap, sRg2_ap, xSeq_ap, xNil_ap, xRet_ap, xRetN_ap, xExp_ap, xSet_ap, xAsg_ap, xPar_ap, xPar3_ap, xIf_ap, xPut_ap, xFor_ap, gN_ap, gsN_ap, gsC_ap, gT_ap, add_ii, sub_ii, lt_ii, le_ii, gt_ii, ge_ii, eq_ii, ne_ii, eq_ss, ne_ss, mkT_ap, allD_nil, allD_d, items_tup, items_lst, walk_lst, walk_tup, walk_s, froz_tup, froz_lst, tru_bl, tru_int, tru_no, len_tup, len_lst, len_s, min_ii, max_ii, int_bl, int_in, tuple_tup, tuple_lst, tyN_int, tyN_tup, tyN_str, kit_ib, kit_ii, kit_tt, kit_st, kit_it, enum_nil, enum_cons, for_nil, List.getElem?_cons_zero, List.getElem?_cons_succ, List.set_cons_zero, List.set_cons_succ, List.length_cons, List.length_nil, Option.map_some, Option.bind_some, Bool.not_true, Bool.not_false, decide_true, decide_false, decide_eq_true_eq, if_true, if_false, Bool.false_eq_true, Nat.reduceAdd, Nat.reduceSub, Nat.reduceLeDiff, Nat.reduceMul, Nat.reduceLT, Nat.reduceEqDiff, reduceIte, Bool.true_eq_false, and_true, true_and, and_self, Option.isSome_some, Option.isSome_none, List.append_nil, List.nil_append, List.cons_append, Nat.zero_add, Nat.add_zero, eq_self, Int.cast_ofNat_Int, Int.reduceEq, Int.reduceNe, Int.reduceLT, Int.reduceLE, Int.reduceNeg, Int.reduceAdd, Int.reduceSub, Int.reduceMul, gt_iff_lt]
    rw [hm] at bd run
    simp only [gt_iff_lt] at bd run
    simp only [bind_ok, bindN_ok, toS_ok, lift_some, sK_ap, sV_ap, s2_ap, sF_ap, aNil_ap, aCons_ap, sTup_ap, sLst_ap, sLstM_ap, sNeg_ap, sIf_ap, sCl_ap, sKget_ap, sKgetI_ap, sKin_ap, sKnin_ap, sIsi_ap, sCh_ap, sFK_ap, sMt_ap, sNot_ap, sAnd_ap, sOr_ap, tB_ap, tT_ap, tNot_ap, tAnd_ap, tOr_ap, oNo_ap, oSo_ap, sSl_ap, sIt_ap, sEnm_ap, sRg1_ap, sRg2_ap, xSeq_ap, xNil_ap, xRet_ap, xRetN_ap, xExp_ap, xSet_ap, xAsg_ap, xPar_ap, xPar3_ap, xIf_ap, xPut_ap, xFor_ap, gN_ap, gsN_ap, gsC_ap, gT_ap, add_ii, sub_ii, lt_ii, le_ii, gt_ii, ge_ii, eq_ii, ne_ii, eq_ss, ne_ss, mkT_ap, allD_nil, allD_d, items_tup, items_lst, walk_lst, walk_tup, walk_s, froz_tup, froz_lst, tru_bl, tru_int, tru_no, len_tup, len_lst, len_s, min_ii, max_ii, int_bl, int_in, tuple_tup, tuple_lst, tyN_int, tyN_tup, tyN_str, kit_ib, kit_ii, kit_tt, kit_st, kit_it, enum_nil, enum_cons, for_nil, List.getElem?_cons_zero, List.getElem?_cons_succ, List.set_cons_zero, List.set_cons_succ, List.length_cons, List.length_nil, Option.map_some, Option.bind_some, Bool.not_true, Bool.not_false, decide_true, decide_false, decide_eq_true_eq, if_true, if_false, Bool.false_eq_true, Nat.reduceAdd, Nat.reduceSub, Nat.reduceLeDiff, Nat.reduceMul, Nat.reduceLT, Nat.reduceEqDiff, reduceIte, Bool.true_eq_false, and_true, true_and, and_self, Option.isSome_some, Option.isSome_none, List.append_nil, List.nil_append, List.cons_append, Nat.zero_add, Nat.add_zero, eq_self, Int.cast_ofNat_Int, Int.reduceEq, Int.reduceNe, Int.reduceLT, Int.reduceLE, Int.reduceNeg, Int.reduceAdd, Int.reduceSub, Int.reduceMul, bd]
    exact run
  · simp only [bind_ok, bindN_ok, toS_ok, lift_some, sK_ap, sV_ap, s2_ap, sF_ap, aNil_ap, aCons_ap, sTup_ap, sLst_ap, sLstM_ap, sNeg_ap, sIf_ap, sCl_ap, sKget_ap, sKgetI_ap, sKin_ap, sKnin_ap, sIsi_ap, sCh_ap, sFK_ap, sMt_ap, sNot_ap, sAnd_ap, sOr_ap, tB_ap, tT_ap, tNot_ap, tAnd_ap, tOr_ap, oNo_ap, oSo_ap, sSl_ap, sIt_ap, sEnm_ap, sRg1_ap, sRg2_ap, xSeq_ap, xNil_ap, xRet_ap, xRetN_ap, xExp_ap, xSet_ap, xAsg_ap, xPar_ap, xPar3_ap, xIf_ap, xPut_ap, xFor_ap, gN_ap, gsN_ap, gsC_ap, gT_ap, add_ii, sub_ii, lt_ii, le_ii, gt_ii, ge_ii, eq_ii, ne_ii, eq_ss, ne_ss, mkT_ap, allD_nil, allD_d, items_tup, items_lst, walk_lst, walk_tup, walk_s, froz_tup, froz_lst, tru_bl, tru_int, tru_no, len_tup, len_lst, len_s, min_ii, max_ii, int_bl, int_in, tuple_tup, tuple_lst, tyN_int, tyN_tup, tyN_str, kit_ib, kit_ii, kit_tt, kit_st, kit_it, enum_nil, enum_cons, for_nil, List.getElem?_cons_zero, List.getElem?_cons_succ, List.set_cons_zero, List.set_cons_succ, List.length_cons, List.length_nil, Option.map_some, Option.bind_some, Bool.not_true, Bool.not_false, decide_true, decide_false, decide_eq_true_eq, if_true, if_false, Bool.false_eq_true, Nat.reduceAdd, Nat.reduceSub, Nat.reduceLeDiff, Nat.reduceMul, Nat.reduceLT, Nat.reduceEqDiff, reduceIte, Bool.true_eq_false, and_true, true_and, and_self, Option.isSome_some, Option.isSome_none, List.append_nil, List.nil_append, List.cons_append, Nat.zero_add, Nat.add_zero, eq_self, Int.cast_ofNat_Int, Int.reduceEq, Int.reduceNe, Int.reduceLT, Int.reduceLE, Int.reduceNeg, Int.reduceAdd, Int.reduceSub, Int.reduceMul, y1, y2, y3, y4, y5, c1, c2, c3, c4, ad, eq2]
end K44

open PySem PySem.W PySem.Calls PyProof.Rows
set_option maxHeartbeats 0 in
theorem PySem.Challenge.cw_castforms_k44_mixed_comparisons_by_tryin_holds : PySem.Challenge.rw_castforms_k44_mixed_comparisons_by_tryin.Holds := by
  w_on; o_law
  o_head (K44.hk)
  case hw => w_witness2
  case hc =>
    refine Vi.walk_g (l := PySem.Challenge.rw_castforms_k44_mixed_comparisons_by_tryin) (n := 63) (k := 7) (x := "script") (F := K44.F_law) rfl (by decide) (by kernel_rfl) ⟨rfl, by decide, by decide⟩ ?T K44.law_true
    intro w mg fa h Y G hm
    obtain ⟨K, KX, c⟩ := Y
    have C := K44.ctx (P := (PySem.Challenge.rw_castforms_k44_mixed_comparisons_by_tryin).prog) KX G c
    obtain ⟨f, fd, hF, hm2⟩ := C.d_law
    cases hm.symm.trans hm2
    exact ⟨K, fd, KX, Vi.binds_1 hF K44.bp_law, fun base _ _ => K44.g_law C hF⟩
