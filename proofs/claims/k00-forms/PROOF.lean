import PyProof.Rows.All
import Wide.All
import OpenK.AllK
import Wide.FinOn
import HandS.ForMost
import HandS.IsInst
import HandS.Style
import HandS.TupMul
import HandS.TupAny
import HandS.Walk
import HandS.Strs
import HandS.Zip
import HandS.Flow
import PySem.Challenge.RW_mintlaw_k00_forms
import HandS.Codes
set_option Elab.async false
set_option linter.all false
set_option maxRecDepth 100000
set_option maxHeartbeats 4000000
/-! Plain data (None, bools, ints, texts, tuples) at a value; what stays when the heap changes. -/
namespace Mt
open PySem PySem.Spec PyProof.Rows L2

mutual
/-- the value v holds the plain data d -/
inductive Im (K : PySem.W.Frag) (H : Hp) : V → PyData → Prop
  | non : Im K H .non .none
  | bl (b : Bool) : Im K H (.bl b) (.bool b)
  | int (i : Int) : Im K H (.int i) (.int i)
  | str {x : Str} (h : x.length ≤ 1000) (o : PyData.strOk x = true) : Im K H (.str x) (.str x)
  | tup {a : Addr} {xs : List V} {ds : List PyData} : SqT K H a xs → xs.length ≤ 1000 → ImA K H xs ds → Im K H (.ref a) (.tuple ds)
inductive ImA (K : PySem.W.Frag) (H : Hp) : List V → List PyData → Prop
  | nil : ImA K H [] []
  | cons {v : V} {vs : List V} {d : PyData} {ds : List PyData} : Im K H v d → ImA K H vs ds → ImA K H (v :: vs) (d :: ds)
end

/-- tuples stay -/
def Tu (H H' : Hp) : Prop := ∀ a xs, Rd H a (.tup xs) → Rd H' a (.tup xs)
theorem Tu.refl (H : Hp) : Tu H H := fun _ _ h => h
theorem Tu.trans {H H1 H2 : Hp} (a : Tu H H1) (b : Tu H1 H2) : Tu H H2 := fun x o h => b x o (a x o h)
theorem Tu.same {H H' : Hp} (s : Same H H') : Tu H H' := fun a xs h => by
  rcases h with h | ⟨o, h⟩
  · exact .inl (s _ _ h)
  · exact .inr ⟨o, s _ _ h⟩
/-- a change at one place that holds no tuple -/
theorem Tu.at {H : Hp} {l : Addr} {o o' : HO} (h : H l = some o) (nt : ∀ xs, o ≠ .tup xs) (nf : ∀ b xs, o ≠ .frz b (.tup xs)) : Tu H (upd H l o') := fun a xs q => by
  rcases q with q | ⟨b, q⟩
  · have : a ≠ l := fun e => by subst e; rw [q] at h; exact nt xs (Option.some.inj h).symm
    exact .inl (by rw [upd_ne this]; exact q)
  · have : a ≠ l := fun e => by subst e; rw [q] at h; exact nf b xs (Option.some.inj h).symm
    exact .inr ⟨b, by rw [upd_ne this]; exact q⟩
theorem Tu.lst {H : Hp} {l : Addr} {ys : List V} {o' : HO} (h : H l = some (.lst ys)) : Tu H (upd H l o') := Tu.at h (fun _ q => nomatch q) fun _ _ q => nomatch q
theorem Tu.dK {H : Hp} {l : Addr} {ys : List (Key × V)} {o' : HO} (h : H l = some (.dK ys)) : Tu H (upd H l o') := Tu.at h (fun _ q => nomatch q) fun _ _ q => nomatch q
theorem Tu.new {H : Hp} {l : Addr} {o' : HO} (h : H l = none) : Tu H (upd H l o') := Tu.same fun a o q => by rw [upd_ne (ne_of_none q h)]; exact q
theorem Tu.seq {K : PySem.W.Frag} {H H' : Hp} {a : Addr} {xs : List V} (t : Tu H H') (h : SqT K H a xs) : SqT K H' a xs := by
  rcases h with h | h
  · exact .inl (t _ _ h)
  · exact .inr h

section
variable {K : PySem.W.Frag} {H H' : Hp}
mutual
theorem Im.mono (t : Tu H H') : ∀ {v : V} {d : PyData}, Im K H v d → Im K H' v d
  | _, _, .non => .non
  | _, _, .bl b => .bl b
  | _, _, .int i => .int i
  | _, _, .str h o => .str h o
  | _, _, .tup h z hs => .tup (t.seq h) z (ImA.mono t hs)
theorem ImA.mono (t : Tu H H') : ∀ {v : List V} {d : List PyData}, ImA K H v d → ImA K H' v d
  | _, _, .nil => .nil
  | _, _, .cons h hs => .cons (Im.mono t h) (ImA.mono t hs)
end
mutual
theorem Im.dp : ∀ {v : V} {d : PyData}, Im K H v d → Dp K H v d
  | _, _, .non => .non
  | _, _, .bl b => .bl b
  | _, _, .int i => .int i
  | _, _, .str _ _ => .str _
  | _, _, .tup h z hs => .tup h (ImA.dp hs)
theorem ImA.dp : ∀ {v : List V} {d : List PyData}, ImA K H v d → DpAll K H v d
  | _, _, .nil => .nil
  | _, _, .cons h hs => .cons (Im.dp h) (ImA.dp hs)
end
mutual
theorem Im.lay : ∀ {v : V} {d : PyData}, Im K H v d → d.canLay0 = true
  | _, _, .non => rfl
  | _, _, .bl b => rfl
  | _, _, .int i => rfl
  | _, _, .str _ o => by simp only [PyData.canLay0]; exact o
  | _, _, .tup h z hs => by simp only [PyData.canLay0]; exact ImA.lay hs
theorem ImA.lay : ∀ {v : List V} {d : List PyData}, ImA K H v d → PyData.canLayAll0 d = true
  | _, _, .nil => rfl
  | _, _, .cons h hs => by simp only [PyData.canLayAll0, Im.lay h, ImA.lay hs, Bool.and_self]
end
theorem ImA.len : ∀ {v : List V} {d : List PyData}, ImA K H v d → v.length = d.length
  | _, _, .nil => rfl
  | _, _, .cons h hs => congrArg (· + 1) (ImA.len hs)
theorem ImA.get : ∀ {v : List V} {d : List PyData} {i : Nat} {x : V}, ImA K H v d → v[i]? = some x → ∃ e, d[i]? = some e ∧ Im K H x e
  | _, _, _, _, .nil, e => by simp at e
  | _, _, 0, _, .cons r _, e => by simp at e; subst e; exact ⟨_, rfl, r⟩
  | _, _, i + 1, x, .cons _ t, e => by
    obtain ⟨u, h1, h2⟩ := ImA.get (i := i) (x := x) t (by simpa using e)
    exact ⟨u, by simpa using h1, h2⟩
theorem ImA.get' : ∀ {v : List V} {d : List PyData} {i : Nat} {e : PyData}, ImA K H v d → d[i]? = some e → ∃ x, v[i]? = some x ∧ Im K H x e
  | _, _, _, _, .nil, e => by simp at e
  | _, _, 0, _, .cons r _, e => by simp at e; subst e; exact ⟨_, rfl, r⟩
  | _, _, i + 1, x, .cons _ t, e => by
    obtain ⟨u, h1, h2⟩ := ImA.get' (i := i) (e := x) t (by simpa using e)
    exact ⟨u, by simpa using h1, h2⟩
theorem ImA.append : ∀ {v w : List V} {d e : List PyData}, ImA K H v d → ImA K H w e → ImA K H (v ++ w) (d ++ e)
  | _, _, _, _, .nil, h => h
  | _, _, _, _, .cons a b, h => .cons a (b.append h)
theorem ImA.drop : ∀ {v : List V} {d : List PyData} (n : Nat), ImA K H v d → ImA K H (v.drop n) (d.drop n)
  | _, _, 0, h => h
  | _, _, _ + 1, .nil => .nil
  | _, _, n + 1, .cons _ t => ImA.drop n t
theorem ImA.take : ∀ {v : List V} {d : List PyData} (n : Nat), ImA K H v d → ImA K H (v.take n) (d.take n)
  | _, _, 0, _ => .nil
  | _, _, _ + 1, .nil => .nil
  | _, _, n + 1, .cons r t => .cons r (ImA.take n t)

/-- the type's name -/
def tyS : PyData → String
  | .none => "NoneType"
  | .bool _ => "bool"
  | .int _ => "int"
  | .str _ => "str"
  | .tuple _ => "tuple"
  | .list _ => "list"
  | .dict _ => "dict"
theorem SqT.ty {a : Addr} {xs : List V} (h : SqT K H a xs) : TyX K H (.ref a) (.type "tuple") := by
  rcases h with (h | ⟨o, h⟩) | ⟨o, its, n, hk, hc, _⟩
  · exact .base (.tup h)
  · exact .fTuple h
  · exact .kTuple hk hc
theorem Im.ty {v : V} {d : PyData} (h : Im K H v d) : TyX K H v (.type (tyS d)) := by
  cases h with
  | non => exact .base .non
  | bl b => exact .base (.bl b)
  | int i => exact .base (.int i)
  | str _ _ => exact .base (.str _)
  | tup h _ _ => exact SqT.ty h
def isT (T : String) : PyData → Bool
  | .none => T == "NoneType"
  | .bool _ => T == "bool" || T == "int"
  | .int _ => T == "int"
  | .str _ => T == "str"
  | .tuple _ => T == "tuple"
  | .list _ => T == "list"
  | .dict _ => T == "dict"
def sixT : List String := ["int", "bool", "str", "tuple", "list", "dict"]
theorem kit_all : (["NoneType", "bool", "int", "str", "tuple", "list", "dict"].all fun a => sixT.all fun b => kitB a b == some (a == b || (a == "bool" && b == "int"))) = true := by decide +kernel
theorem isT_kit {T : String} (hT : T ∈ sixT) (d : PyData) : PySem.W.kitOne K (.type (tyS d)) (.type T) = some (isT T d) := by
  apply kit_ty
  have h := kit_all
  simp only [List.all_eq_true] at h
  have h1 : kitB (tyS d) T = some (tyS d == T || (tyS d == "bool" && T == "int")) := by
    have := h (tyS d) (by cases d <;> simp [tyS]) T hT
    simpa using this
  rw [h1]
  have h2 : (tyS d == T || (tyS d == "bool" && T == "int")) = isT T d := by
    simp only [sixT, List.mem_cons, List.not_mem_nil, or_false] at hT
    rcases hT with rfl | rfl | rfl | rfl | rfl | rfl <;> cases d <;> simp [tyS, isT]
  rw [h2]
end
/-- isinstance(x, T), x plain data -/
def rIsD (K : PySem.W.Frag) (T : String) : List V → Hp → VK → Prop := fun xs H Q => ∃ x d, xs = [x, .ty T] ∧ Im K H x d ∧ Q (.bl (isT T d)) H
theorem call_isD {X : Cx} {T : String} (hT : T ∈ sixT) : CallR X (.builtin "isinstance") (rIsD X.K T) := by
  intro pins s σ H xs us Q I r h
  obtain ⟨x, d, rfl, im, q⟩ := h
  exact call_isi pins s σ H _ us Q I r ⟨x, .ty T, _, _, _, rfl, .ty T, im.ty, isT_kit hT d, q⟩

/-- all that stood stands, but what is at M; tuples stand -/
structure Fm (M : Addr → Prop) (H H' : Hp) : Prop where
  kp : ∀ a o, ¬ M a → H a = some o → H' a = some o
  tu : Tu H H'
abbrev M0 : Addr → Prop := fun _ => False
theorem Fm.refl {M : Addr → Prop} (H : Hp) : Fm M H H := ⟨fun _ _ _ h => h, Tu.refl H⟩
theorem Fm.trans {M : Addr → Prop} {H H1 H2 : Hp} (a : Fm M H H1) (b : Fm M H1 H2) : Fm M H H2 := ⟨fun x o n h => b.kp x o n (a.kp x o n h), a.tu.trans b.tu⟩
theorem Fm.same {M : Addr → Prop} {H H' : Hp} (s : Same H H') : Fm M H H' := ⟨fun a o _ h => s a o h, Tu.same s⟩
theorem Fm.to {M : Addr → Prop} {H H' : Hp} (s : Fm M0 H H') : Fm M H H' := ⟨fun a o _ h => s.kp a o (fun z => z) h, s.tu⟩
theorem Fm.new {M : Addr → Prop} {H : Hp} {l : Addr} {o' : HO} (h : H l = none) : Fm M H (upd H l o') := Fm.same fun a o q => by rw [upd_ne (ne_of_none q h)]; exact q
/-- a new object, changed -/
theorem Fm.mut {M : Addr → Prop} {H H' : Hp} {l : Addr} {o o' : HO} (h : Fm M H H') (n : H l = none) (e : H' l = some o) (t : Tu H' (upd H' l o')) : Fm M H (upd H' l o') :=
  ⟨fun a u hm q => by rw [upd_ne (ne_of_none q n)]; exact h.kp a u hm q, h.tu.trans t⟩
theorem Fm.mutL {M : Addr → Prop} {H H' : Hp} {l : Addr} {ys : List V} {o' : HO} (h : Fm M H H') (n : H l = none) (e : H' l = some (.lst ys)) : Fm M H (upd H' l o') := h.mut n e (Tu.lst e)
theorem Fm.fresh {M : Addr → Prop} {H H' : Hp} {l : Addr} (s : Fm M H H') (h : H' l = none) (hm : ¬ M l) : H l = none := by
  cases q : H l with
  | none => rfl
  | some o => rw [s.kp l o hm q] at h; cases h
theorem Fm.seqL {M : Addr → Prop} {K : PySem.W.Frag} {H H' : Hp} {a : Addr} {xs : List V} (s : Fm M H H') (hm : ¬ M a) (h : SqL K H a xs) : SqL K H' a xs := by
  rcases h with (h | ⟨o, h⟩) | h
  · exact .inl (.inl (s.kp _ _ hm h))
  · exact .inl (.inr ⟨o, s.kp _ _ hm h⟩)
  · exact .inr h
theorem Fm.im {M : Addr → Prop} {K : PySem.W.Frag} {H H' : Hp} {v : V} {d : PyData} (s : Fm M H H') (h : Im K H v d) : Im K H' v d := h.mono s.tu
theorem Fm.ima {M : Addr → Prop} {K : PySem.W.Frag} {H H' : Hp} {v : List V} {d : List PyData} (s : Fm M H H') (h : ImA K H v d) : ImA K H' v d := h.mono s.tu

/-- a comprehension over a walk, no test: what each turn gives is P i; S stands throughout -/
theorem lc_fm {J : It} {n : Nat} {G : Hp → Prop} {Y : Nat → Hp → V → Hp → Prop} {M : Addr → Prop} {H1 : Hp} {D : Addr} {g : TG} {te : TE} {vs : List Nat} {σ : L2.St} {R : Hp → Prop}
    (w : Walk J n G Y) (hG : ∀ H, Fm M H1 H → G H) (hY : ∀ i H x H', Y i H x H' → Fm M H H') (hn : n < sizeLine) (nD : H1 D = none) (nM : ¬ M D) (P : Nat → V → Hp → Prop) (S : Hp → Prop)
    (hP : ∀ i y H H', Tu H H' → P i y H → P i y H') (s0 : S H1) (hS : ∀ H o, S H → S (upd H D o))
    (hs : ∀ i x H H' (k : V → Hp → Prop), i < n → Fm M H1 H → S H → Y i H x H' → (∀ y H4, Fm M H H4 → P i y H4 → S H4 → k y H4) → g x (wipe σ vs) H' fun σ2 H2 => wipe σ2 vs = wipe σ vs ∧ te σ2 H2 k)
    (hd : ∀ H ys, Fm M H1 H → H D = some (.lst ys) → ys.length = n → (∀ i y, ys[i]? = some y → P i y H) → S H → R H) :
    ∃ W : Nat → Nat → Hp → Prop, (∃ m, W 0 m (upd H1 D (.lst []))) ∧ ∀ i m H, W i m H →
      (J.stop i H ∧ R H) ∨ (J.go i H ∧ ∃ Nx : Hp → Prop, (∀ H', Nx H' → ∃ m', m' < m ∧ W (i + 1) m' H') ∧ ∀ x H', J.yld i H x H' → g x (wipe σ vs) H' fun σ2 H2 => wipe σ2 vs = wipe σ vs ∧ tYes σ2 H2 fun b H3 =>
        if b = true then te σ2 H3 fun y H4 => ∃ acc, H4 D = some (.lst acc) ∧ acc.length < sizeLine ∧ Nx (upd H4 D (.lst (acc ++ [y]))) else Nx H3) := by
  refine ⟨fun i m H => m = n - i ∧ i ≤ n ∧ Fm M H1 H ∧ S H ∧ ∃ ys, H D = some (.lst ys) ∧ ys.length = i ∧ ∀ j y, ys[j]? = some y → P j y H, ⟨n, by simp, Nat.zero_le _, Fm.new nD, hS _ _ s0, [], upd_same, rfl, fun j y e => by simp at e⟩, ?_⟩
  rintro i m H ⟨rfl, hi, f, s, ys, eD, el, hp⟩
  by_cases hlt : i < n
  · refine .inr ⟨w.goes i H hlt (hG H f), fun H => i + 1 ≤ n ∧ Fm M H1 H ∧ S H ∧ ∃ ys, H D = some (.lst ys) ∧ ys.length = i + 1 ∧ ∀ j y, ys[j]? = some y → P j y H, fun H' p' => ⟨n - (i + 1), by omega, rfl, p'⟩, fun x H' y => ?_⟩
    have hy := w.yields i H x H' hlt (hG H f) y
    refine hs i x H H' (fun y H4 => ∃ acc, H4 D = some (.lst acc) ∧ acc.length < sizeLine ∧ _) hlt f s hy fun y H4 f4 p4 s4 => ?_
    have e4 := f4.kp D _ nM eD
    refine ⟨ys, e4, by omega, by omega, (f.trans f4).mutL nD e4, hS _ _ s4, ys ++ [y], upd_same, by simp [el], fun j z ez => ?_⟩
    have t4 : Tu H4 (upd H4 D (.lst (ys ++ [y]))) := Tu.lst e4
    by_cases hj : j < ys.length
    · rw [List.getElem?_append_left hj] at ez
      exact hP j z _ _ (f4.tu.trans t4) (hp j z ez)
    · rw [List.getElem?_append_right (by omega)] at ez
      have : j - ys.length = 0 := by
        cases q : j - ys.length with
        | zero => rfl
        | succ k => rw [q] at ez; simp at ez
      rw [this] at ez
      have ez : z = y := by simpa using ez.symm
      subst ez
      have ej : j = i := by omega
      subst ej
      exact hP _ _ _ _ t4 p4
  · have e : i = n := by omega
    subst e
    exact .inl ⟨w.stops H (hG H f), hd H ys f eD el hp s⟩
/-- .. nothing but P -/
theorem lc_fm0 {J : It} {n : Nat} {G : Hp → Prop} {Y : Nat → Hp → V → Hp → Prop} {M : Addr → Prop} {H1 : Hp} {D : Addr} {g : TG} {te : TE} {vs : List Nat} {σ : L2.St} {R : Hp → Prop}
    (w : Walk J n G Y) (hG : ∀ H, Fm M H1 H → G H) (hY : ∀ i H x H', Y i H x H' → Fm M H H') (hn : n < sizeLine) (nD : H1 D = none) (nM : ¬ M D) (P : Nat → V → Hp → Prop)
    (hP : ∀ i y H H', Tu H H' → P i y H → P i y H')
    (hs : ∀ i x H H' (k : V → Hp → Prop), i < n → Fm M H1 H → Y i H x H' → (∀ y H4, Fm M H H4 → P i y H4 → k y H4) → g x (wipe σ vs) H' fun σ2 H2 => wipe σ2 vs = wipe σ vs ∧ te σ2 H2 k)
    (hd : ∀ H ys, Fm M H1 H → H D = some (.lst ys) → ys.length = n → (∀ i y, ys[i]? = some y → P i y H) → R H) :
    ∃ W : Nat → Nat → Hp → Prop, (∃ m, W 0 m (upd H1 D (.lst []))) ∧ ∀ i m H, W i m H →
      (J.stop i H ∧ R H) ∨ (J.go i H ∧ ∃ Nx : Hp → Prop, (∀ H', Nx H' → ∃ m', m' < m ∧ W (i + 1) m' H') ∧ ∀ x H', J.yld i H x H' → g x (wipe σ vs) H' fun σ2 H2 => wipe σ2 vs = wipe σ vs ∧ tYes σ2 H2 fun b H3 =>
        if b = true then te σ2 H3 fun y H4 => ∃ acc, H4 D = some (.lst acc) ∧ acc.length < sizeLine ∧ Nx (upd H4 D (.lst (acc ++ [y]))) else Nx H3) :=
  lc_fm w hG hY hn nD nM P (fun _ => True) hP trivial (fun _ _ _ => trivial) (fun i x H H' k a b _ c d => hs i x H H' k a b c fun y H4 e f => d y H4 e f trivial) fun H ys a b c d _ => hd H ys a b c d
/-- what a list is, by its places -/
theorem list_map {α : Type} {ys : List V} {ds : List α} {f : α → V} (hl : ys.length = ds.length) (h : ∀ (i : Nat) (y : V), ys[i]? = some y → ∃ d, ds[i]? = some d ∧ y = f d) : ys = ds.map f := by
  apply List.ext_getElem?
  intro i
  cases e : ys[i]? with
  | some y =>
    obtain ⟨d, ed, rfl⟩ := h i y e
    rw [List.getElem?_map, ed]
    rfl
  | none =>
    have : ys.length ≤ i := List.getElem?_eq_none_iff.mp e
    rw [List.getElem?_map, List.getElem?_eq_none_iff.mpr (by omega)]
    rfl
end Mt

namespace Mt
open PySem PySem.Spec PyProof.Rows L2
/-! rules within a comprehension's block: the written part by its name -/
theorem ixK {X : Cx} {K : PySem.W.Frag} (r : PySem.W.Frag → R2) (e : X.K = K) (h : IxR X (r X.K)) : IxR X (r K) := e ▸ h
theorem opK {X : Cx} {K : PySem.W.Frag} {f : Value → Value → Sem Value} (r : PySem.W.Frag → R2) (e : X.K = K) (h : OpR X f (r X.K)) : OpR X f (r K) := e ▸ h
theorem clK {X : Cx} {K : PySem.W.Frag} {f : Value} (r : PySem.W.Frag → List V → Hp → VK → Prop) (e : X.K = K) (h : CallR X f (r X.K)) : CallR X f (r K) := e ▸ h
theorem slK {X : Cx} {K : PySem.W.Frag} (r : PySem.W.Frag → V → Option Int → Option Int → Hp → VK → Prop) (e : X.K = K) (h : SlR X (r X.K)) : SlR X (r K) := e ▸ h
def rLenV (K : PySem.W.Frag) : List V → Hp → VK → Prop := fun xs H Q => ∃ x n, xs = [x] ∧ LenV K x H n ∧ Q (.int n) H
/-! slices of tuples -/
theorem sIx1 (n : Nat) : HT.sIx (n + 1) 0 (some 1) = 1 := by
  have := HT.sIx_nat (n + 1) 0 1
  rw [show ((1 : Nat) : Int) = 1 from rfl] at this
  rw [this]
  omega
theorem cut1 (x : V) (r : List V) : cutV (x :: r) (some 1) none = r := by
  unfold cutV
  rw [show (x :: r).length = r.length + 1 from rfl, sIx1, HT.sIx_none]
  show (List.take (r.length + 1 - 1) r) = r
  rw [Nat.add_sub_cancel]
  exact List.take_length
theorem walk_r0 {n : Nat} : Walk (Itr 0 n) n (fun _ => True) (YFn fun i => .int (i : Nat)) :=
  walk_range.mono (fun _ h => h) fun i H x H' _ _ y => ⟨y.1, by rw [y.2]; exact congrArg V.int (by omega)⟩
/-! all([.. for ..]) over tuples and ranges -/
theorem all_fm {K : PySem.W.Frag} {J : It} {n : Nat} {G : Hp → Prop} {Y : Nat → Hp → V → Hp → Prop} {M : Addr → Prop} {H1 : Hp} {D : Addr} {g : TG} {te : TE} {vs : List Nat} {σ : L2.St} {R : Hp → Prop}
    (w : Walk J n G Y) (hG : ∀ H, Fm M H1 H → G H) (hY : ∀ i H x H', Y i H x H' → Fm M H H') (hn : n < sizeLine) (nD : H1 D = none) (nM : ¬ M D) (f : Nat → Bool)
    (hs : ∀ i x H H' (k : V → Hp → Prop), i < n → Fm M H1 H → Y i H x H' → (∀ H4, Fm M H H4 → k (.bl (f i)) H4) → g x (wipe σ vs) H' fun σ2 H2 => wipe σ2 vs = wipe σ vs ∧ te σ2 H2 k)
    (hd : ∀ H (bs : List Bool), Fm M H1 H → SqL K H D (bs.map V.bl) → bs.all id = (List.range n).all f → R H) :
    ∃ W : Nat → Nat → Hp → Prop, (∃ m, W 0 m (upd H1 D (.lst []))) ∧ ∀ i m H, W i m H →
      (J.stop i H ∧ R H) ∨ (J.go i H ∧ ∃ Nx : Hp → Prop, (∀ H', Nx H' → ∃ m', m' < m ∧ W (i + 1) m' H') ∧ ∀ x H', J.yld i H x H' → g x (wipe σ vs) H' fun σ2 H2 => wipe σ2 vs = wipe σ vs ∧ tYes σ2 H2 fun b H3 =>
        if b = true then te σ2 H3 fun y H4 => ∃ acc, H4 D = some (.lst acc) ∧ acc.length < sizeLine ∧ Nx (upd H4 D (.lst (acc ++ [y]))) else Nx H3) := by
  refine lc_fm0 (R := R) w hG hY hn nD nM (fun i y _ => y = .bl (f i)) (fun _ _ _ _ _ h => h) (fun i x H H' k hi hf hy hk => hs i x H H' k hi hf hy fun H4 f4 => hk _ H4 f4 rfl) fun H ys hf eD el hp => ?_
  have e : ys = ((List.range n).map f).map V.bl := by
    rw [List.map_map]
    refine list_map (by simp [el]) fun i y ey => ?_
    have hi : i < n := by rw [← el]; exact (List.getElem?_eq_some_iff.mp ey).1
    exact ⟨i, by simp [hi], hp i y ey⟩
  rw [e] at eD
  exact hd H _ hf (SqL.of eD) (by rw [List.all_map]; rfl)
theorem all_range_data {ds : List PyData} {p : PyData → Bool} {f : Nat → Bool} (h : ∀ i d, ds[i]? = some d → f i = p d) : (List.range ds.length).all f = ds.all p := by
  rw [Bool.eq_iff_iff, List.all_eq_true, List.all_eq_true]
  constructor
  · intro q d hd
    obtain ⟨i, hi⟩ := List.mem_iff_getElem?.mp hd
    rw [← h i d hi]
    exact q i (List.mem_range.mpr (List.getElem?_eq_some_iff.mp hi).1)
  · intro q i hi
    have hi := List.mem_range.mp hi
    rw [h i ds[i] (List.getElem?_eq_getElem hi)]
    exact q _ (List.getElem_mem hi)
theorem all_tup {K : PySem.W.Frag} {a : Addr} {xs : List V} {ds : List PyData} {M : Addr → Prop} {H1 : Hp} {D : Addr} {g : TG} {te : TE} {vs : List Nat} {σ : L2.St} {R : Hp → Prop}
    (hS : SqT K H1 a xs) (im : ImA K H1 xs ds) (hn : xs.length < sizeLine) (nD : H1 D = none) (nM : ¬ M D) (p : PyData → Bool)
    (hs : ∀ (i : Nat) (x : V) (d : PyData) (H : Hp) (k : V → Hp → Prop), ds[i]? = some d → Im K H x d → Fm M H1 H → (∀ H4, Fm M H H4 → k (.bl (p d)) H4) → g x (wipe σ vs) H fun σ2 H2 => wipe σ2 vs = wipe σ vs ∧ te σ2 H2 k)
    (hd : ∀ H (bs : List Bool), Fm M H1 H → SqL K H D (bs.map V.bl) → bs.all id = ds.all p → R H) :
    ∃ W : Nat → Nat → Hp → Prop, (∃ m, W 0 m (upd H1 D (.lst []))) ∧ ∀ i m H, W i m H →
      ((Itt K a).stop i H ∧ R H) ∨ ((Itt K a).go i H ∧ ∃ Nx : Hp → Prop, (∀ H', Nx H' → ∃ m', m' < m ∧ W (i + 1) m' H') ∧ ∀ x H', (Itt K a).yld i H x H' → g x (wipe σ vs) H' fun σ2 H2 => wipe σ2 vs = wipe σ vs ∧ tYes σ2 H2 fun b H3 =>
        if b = true then te σ2 H3 fun y H4 => ∃ acc, H4 D = some (.lst acc) ∧ acc.length < sizeLine ∧ Nx (upd H4 D (.lst (acc ++ [y]))) else Nx H3) := by
  have hl := im.len
  refine all_fm (K := K) (f := fun i => match ds[i]? with | some d => p d | none => true) (walk_tup (xs := xs)) (fun H f => f.tu.seq hS) (fun i H x H' y => by rw [y.1]; exact Fm.refl H) hn nD nM ?_ ?_
  · rintro i x H H' k hi hf ⟨rfl, hx⟩ hk
    obtain ⟨d, ed, hd⟩ := im.get hx
    refine hs i x d _ k ed (hf.im hd) hf fun H4 f4 => ?_
    have := hk H4 f4
    simp only [ed] at this
    exact this
  · intro H bs hf hD eb
    rw [hl, all_range_data (p := p) (fun i d e => by simp only [e])] at eb
    exact hd H bs hf hD eb
end Mt

namespace Mt
open PySem PySem.Spec PyProof.Rows L2
/-! x == (), x != () of plain data of any depth -/
def isEmp : PyData → Bool
  | .tuple [] => true
  | _ => false
theorem eqv_emp (d : PyData) : PyData.eqv d (.tuple []) = isEmp d := by
  cases d with
  | tuple ds => cases ds <;> simp [PyData.eqv, PyData.eqvAll, isEmp]
  | _ => simp [PyData.eqv, isEmp]
def rEqE (K : PySem.W.Frag) (neg : Bool) : R2 := fun x y H Q => ∃ d a, Im K H x d ∧ y = .ref a ∧ SqT K H a [] ∧ Q (.bl (if neg then !isEmp d else isEmp d)) H
theorem emp_reads {X : Cx} {pins : List (Addr × Obj)} {σ : L2.St} {H : Hp} {s : Shared} {a : Addr} {u : Value} (I : Inv X pins σ H s) (h : SqT X.K H a []) (r : RelV (.ref a) u) : ∃ as, Reads s.heap u (.tuple []) as :=
  Dp.reads I (.tuple []) (.ref a) u (.tup h .nil) r
theorem op_eqE {X : Cx} (hu : X.A.units + 64 < cLine) : OpR X (compareOp .Eq) (rEqE X.K false) := by
  intro pins s σ H x y v u Q I rx ry h
  obtain ⟨d, a, hd, rfl, ha, q⟩ := h
  obtain ⟨as, r1⟩ := Dp.reads I d x v hd.dp rx
  obtain ⟨bs, r2⟩ := emp_reads I ha ry
  refine SeqAt.compareEq_reads r1 r2 hd.lay rfl ?_ ⟨.bl _, H, I, rfl, by rw [eqv_emp]; exact q⟩
  have : min d.depth (PyData.tuple []).depth ≤ 1 := Nat.min_le_right _ _
  omega
theorem op_neE {X : Cx} (hu : X.A.units + 64 < cLine) : OpR X (compareOp .NotEq) (rEqE X.K true) := by
  intro pins s σ H x y v u Q I rx ry h
  obtain ⟨d, a, hd, rfl, ha, q⟩ := h
  obtain ⟨as, r1⟩ := Dp.reads I d x v hd.dp rx
  obtain ⟨bs, r2⟩ := emp_reads I ha ry
  refine SeqAt.compareNe_reads r1 r2 hd.lay rfl ?_ ⟨.bl _, H, I, rfl, by rw [eqv_emp]; exact q⟩
  have : min d.depth (PyData.tuple []).depth ≤ 1 := Nat.min_le_right _ _
  omega
/-- a contract that nothing meets -/
theorem none_ok {P : Program} {w : World} {K : PySem.W.Frag} {mg : Str → Option Value} {base : Heap} {CX : CXT} {k : Nat} {f : Addr} {fd : FuncData} {ps : List Str} {sp : Sp} (no : ∀ vs H Q E, ¬ sp vs H Q E) : FnOk P w K mg base CX k f fd ps sp :=
  ⟨fun vs H Q E h => absurd h (no vs H Q E), fun A outer s H args us vs Q E _ _ _ _ h => absurd h (no vs H Q E)⟩
end Mt

/-! a tuple times 1: the tuple itself -/
namespace MtT
open PySem PySem.Spec PyProof.Rows L2
theorem mul_one (l : Addr) (items : Array Value) (n : Nat) (dd : Option Addr) (sl : Array (Option Value)) (u : Tok) :
    Meets (Builtin.«tuple.__mul__» ⟨[.ref l, .int 1 u], []⟩) (fun _ R s => s.heap.get? l = some { cls := .type "tuple", dict := dd, data := .seq items n, slots := sl } ∧ R (.ok (.ret (Value.ref l))) s) :=
  .of_wp fun prog w A R s h => by
    obtain ⟨hp, g, d, tk, os⟩ := s
    obtain ⟨hl, h⟩ := h
    have f1 := AutoSeq1.idx_int
    have c1 : (items.isEmpty || (1 : Int) == 1) = true := by simp
    wp_walk using wpAny_loadPart' hl
    exact ⟨_, rfl, h⟩
/-- t * k, k from 1 on -/
def rRepA (K : PySem.W.Frag) : R2 := fun x y H Q => ∃ l k xs, x = .ref l ∧ y = .int k ∧ SqT K H l xs ∧ xs ≠ [] ∧ 1 ≤ k ∧ k ≤ 1000 ∧ xs.length ≤ 1000 ∧ (k = 1 → Q (.ref l) H) ∧ (2 ≤ k → ∀ p, H p = none → Q (.ref p) (upd H p (.tup (List.replicate k.toNat xs).flatten)))
theorem op_repA {X : Cx} : OpR X (binaryOp .Mult) (rRepA X.K) := by
  intro pins s σ H x y v u Q I rx ry h
  obtain ⟨l, k, xs, rfl, rfl, hT, hne, h1, h2, hz, q1, q2⟩ := h
  by_cases hk : 2 ≤ k
  · exact op_repT pins s σ H _ _ v u Q I rx ry ⟨l, k, xs, rfl, rfl, hT, hne, hk, h2, hz, q2 hk⟩
  obtain rfl : k = 1 := by omega
  cases rx
  obtain ⟨t, rfl⟩ := ry
  obtain ⟨its, r, ⟨⟨cls, dd, data, sl⟩, ho, hc, n, hd⟩, hs⟩ := I.tuple hT
  simp only at hc hd
  subst hc hd
  exact wpAny_binaryOp_repeat_ref (T := "tuple") (U := "int") (by decide) ⟨_, ho, rfl⟩ (fun s' => typeIs_int s' 1 t) noFill_tuple_mul F.fills_int_mul F.slot_int_rmul repeat_tuple F.slot_int_index.lookup
    (call_meets F.slot_int_rmul (typeIs_int s 1 t) F.entry_int_rmul (F.args_int_rmul_2 _ _) (int_rmul_tuple 1 t l its.toArray n dd sl)
      ⟨ho, rfl, ⟨_, ho, rfl⟩, call_meets F.slot_tuple_mul ⟨_, ho, rfl⟩ F.entry_tuple_mul (F.args_tuple_mul_2 _ _) (mul_one l its.toArray n dd sl t) ⟨ho, ⟨.ref l, H, I, rfl, q1 rfl⟩⟩⟩)
end MtT

namespace Mt
open PySem PySem.Spec PyProof.Rows L2
/-! the law's draws: the dict at d, its row at l -/
abbrev kAt : Key := .inr "at"
abbrev kRow : Key := .inr "row"
theorem kAt_ne : ¬ kAt = kRow := by decide +kernel
theorem kRow_ne : ¬ kRow = kAt := by decide +kernel
structure Dr (d l : Addr) (row : List Int) (H : Hp) : Prop where
  at_ : ∃ n : Nat, H d = some (.dK [(kAt, .int n), (kRow, .ref l)])
  row_ : H l = some (.lst (row.map V.int))
  pos : 0 < row.length
  le : row.length ≤ 1000
abbrev Md (d : Addr) : Addr → Prop := fun a => a = d
section
variable {d l : Addr} {row : List Int} {H H' : Hp} {at' : Nat}
theorem get_at {x y : V} (h : H d = some (.dK [(kAt, x), (kRow, y)])) : DGet H d (.str "at") (some x) := by
  have := DGet.k (k := kAt) h
  rw [valV_pos rfl] at this
  exact this
theorem get_row {x y : V} (h : H d = some (.dK [(kAt, x), (kRow, y)])) : DGet H d (.str "row") (some y) := by
  have := DGet.k (k := kRow) h
  rw [valV_neg kAt_ne, valV_pos rfl] at this
  exact this
theorem put_at {x y z : V} (h : H d = some (.dK [(kAt, x), (kRow, y)])) : DPut H d (.str "at") z (upd H d (.dK [(kAt, z), (kRow, y)])) := by
  have := DPut.k (k := kAt) (v := z) h (by show 2 < sizeLine; decide)
  have e : putK [(kAt, x), (kRow, y)] kAt z = [(kAt, z), (kRow, y)] := by
    unfold putK
    rw [if_pos (by simp)]
    simp only [List.map_cons, List.map_nil, if_true, if_neg kRow_ne]
  rw [e] at this
  exact this
theorem Dr.ne (h : Dr d l row H) : d ≠ l := by
  obtain ⟨n, e⟩ := h.at_
  exact ne_of e h.row_ (by intro z; cases z)
theorem Dr.dsome (h : Dr d l row H) : ∃ o, H d = some o := let ⟨_, e⟩ := h.at_; ⟨_, e⟩
/-- draws stay where all but the draws' own changes -/
theorem Dr.keep (h : Dr d l row H) (f : Fm M0 H H') : Dr d l row H' := by
  obtain ⟨n, e⟩ := h.at_
  exact ⟨⟨n, f.kp d _ (fun z => z) e⟩, f.kp l _ (fun z => z) h.row_, h.pos, h.le⟩
/-- .. and where something else is stored -/
theorem Dr.upd (h : Dr d l row H) {p : Addr} {o : HO} (n1 : p ≠ d) (n2 : p ≠ l) : Dr d l row (upd H p o) := by
  obtain ⟨n, e⟩ := h.at_
  exact ⟨⟨n, by rw [upd_ne n1.symm]; exact e⟩, by rw [upd_ne n2.symm]; exact h.row_, h.pos, h.le⟩
theorem Dr.new (h : Dr d l row H) {p : Addr} {o : HO} (n : H p = none) : Dr d l row (L2.upd H p o) := by
  obtain ⟨k, e⟩ := h.at_
  exact h.upd (fun z => by rw [z, e] at n; cases n) (fun z => by rw [z, h.row_] at n; cases n)
theorem Dr.nd (h : Dr d l row H) {p : Addr} (n : H p = none) : p ≠ d := by
  obtain ⟨k, e⟩ := h.at_
  exact fun z => by rw [z, e] at n; cases n
theorem Dr.nl (h : Dr d l row H) {p : Addr} (n : H p = none) : p ≠ l := fun z => by rw [z, h.row_] at n; cases n
end
/-- a call that draws: what it asks ahead, what it hands on -/
def drawn (d l : Addr) (row : List Int) (H : Hp) (P : V → Hp → Prop) (Q : VK) : Prop := Dr d l row H ∧ ∀ v H', Fm (Md d) H H' → Dr d l row H' → P v H' → Q v H'
end Mt

namespace Mt
open PySem PySem.Spec PyProof.Rows L2
/-! what an expression evaluates to, as plain data -/
theorem ImA.of_get {K : PySem.W.Frag} {H : Hp} : ∀ {ys : List V} {ds : List PyData}, ys.length = ds.length → (∀ (i : Nat) y, ys[i]? = some y → ∃ d, ds[i]? = some d ∧ Im K H y d) → ImA K H ys ds
  | [], [], _, _ => .nil
  | [], _ :: _, h, _ => by simp at h
  | _ :: _, [], h, _ => by simp at h
  | y :: ys, d :: ds, h, g => by
    obtain ⟨e, he, ie⟩ := g 0 y rfl
    have he : d = e := by simpa using he
    subst he
    exact .cons ie (ImA.of_get (by simpa using h) fun i z hz => g (i + 1) z hz)
section
variable {K : PySem.W.Frag} {σ : L2.St} {H H' : Hp} {ta tb te : TE} {d : PyData} {ds es : List PyData}
def EvI (K : PySem.W.Frag) (te : TE) (σ : L2.St) (H : Hp) (d : PyData) : Prop := ∀ H1, Fm M0 H H1 → ∀ Q : VK, (∀ v H2, Fm M0 H1 H2 → Im K H2 v d → Q v H2) → te σ H1 Q
def EvIA (K : PySem.W.Frag) (ta : TA) (σ : L2.St) (H : Hp) (ds : List PyData) : Prop := ∀ H1, Fm M0 H H1 → ∀ Q : List V → Hp → Prop, (∀ vs H2, Fm M0 H1 H2 → ImA K H2 vs ds → Q vs H2) → ta σ H1 Q
def EvIO (to : TO) (σ : L2.St) (o : Option Int) : Prop := ∀ H (Q : Option Int → Hp → Prop), Q o H → to σ H Q
theorem EvI.mono (f : Fm M0 H H') (h : EvI K te σ H d) : EvI K te σ H' d := fun H1 g => h H1 (f.trans g)
theorem ei_var {i : Nat} {v : V} (e : σ[i]? = some (some v)) (im : Im K H v d) : EvI K (tVar i) σ H d := fun H1 f Q q => ⟨v, e, q v H1 (Fm.refl _) (f.im im)⟩
theorem ei_int {i : Int} : EvI K (tC (.int i)) σ H (.int i) := fun H1 f Q q => q _ H1 (Fm.refl _) (.int i)
theorem ei_bl {i : Bool} : EvI K (tC (.bl i)) σ H (.bool i) := fun H1 f Q q => q _ H1 (Fm.refl _) (.bl i)
theorem ei_non : EvI K (tC .non) σ H .none := fun H1 f Q q => q _ H1 (Fm.refl _) .non
theorem ei_str {x : Str} (h : (decide (x.length ≤ 1000) && PyData.strOk x) = true) : EvI K (tC (.str x)) σ H (.str x) := fun H1 f Q q => q _ H1 (Fm.refl _) (by
  have : x.length ≤ 1000 ∧ PyData.strOk x = true := by simpa using h
  exact .str this.1 this.2)
theorem ei_neg {i : Int} (ha : EvI K ta σ H (.int i)) : EvI K (tUn (rU fun i => .int (-i)) ta) σ H (.int (-i)) := fun H1 f Q q =>
  ha H1 f _ fun v H2 f2 im => by cases im; exact ⟨i, rfl, q _ H2 f2 (.int _)⟩
theorem eia_nil : EvIA K tNil σ H [] := fun H1 f Q q => q [] H1 (Fm.refl _) .nil
theorem eia_cons {tr : TA} (h : EvI K te σ H d) (hr : EvIA K tr σ H ds) : EvIA K (tCons te tr) σ H (d :: ds) := fun H1 f Q q =>
  h H1 f _ fun v H2 f2 im => hr H2 (f.trans f2) _ fun vs H3 f3 ims => q _ H3 (f2.trans f3) (.cons (f3.im im) ims)
theorem ei_tup {t : TA} (h : EvIA K t σ H ds) (hl : ds.length ≤ 1000 := by decide) : EvI K (tTup t) σ H (.tuple ds) := fun H1 f Q q =>
  h H1 f _ fun vs H2 f2 ims => ⟨Nat.le_trans (by rw [ims.len]; exact hl) (by decide), fun p np => q _ _ (f2.trans (Fm.new np)) (.tup (SqT.of upd_same) (by rw [ims.len]; exact hl) (ims.mono (Tu.new np)))⟩
theorem ei_cat (ha : EvI K ta σ H (.tuple ds)) (hb : EvI K tb σ H (.tuple es)) (hl : ds.length + es.length ≤ 1000) : EvI K (tOp (rCatA K) ta tb) σ H (.tuple (ds ++ es)) := fun H1 f Q q =>
  ha H1 f _ fun v H2 f2 im => hb H2 (f.trans f2) _ fun u H3 f3 im' => by
    have im := f3.im im
    cases im with
    | @tup a xs _ hS hz ha =>
      cases im' with
      | @tup b ys _ hS' hz' hb =>
        have l1 := ha.len
        have l2 := hb.len
        refine ⟨a, b, xs, ys, rfl, rfl, hS, hS', Nat.le_trans (by omega : _ ≤ 1000) (by decide), fun e => ?_, fun _ e => ?_, fun _ _ p np => ?_⟩
        · subst e
          cases ha
          exact q _ _ (f2.trans f3) (.tup hS' hz' hb)
        · subst e
          cases hb
          rw [List.append_nil] at q
          exact q _ _ (f2.trans f3) (.tup hS hz ha)
        · exact q _ _ ((f2.trans f3).trans (Fm.new np)) (.tup (SqT.of upd_same) (by rw [List.length_append]; omega) ((ha.append hb).mono (Tu.new np)))
theorem ImA.rep {xs : List V} {ds : List PyData} (h : ImA K H xs ds) : ∀ n : Nat, ImA K H (List.replicate n xs).flatten (List.replicate n ds).flatten
  | 0 => .nil
  | n + 1 => by
    rw [List.replicate_succ, List.replicate_succ, List.flatten_cons, List.flatten_cons]
    exact h.append (ImA.rep h n)
theorem ei_rep {n : Nat} (ha : EvI K ta σ H (.tuple ds)) (hb : EvI K tb σ H (.int (n : Nat))) (hne : ds ≠ []) (h1 : 1 ≤ n) (hl : n * ds.length ≤ 1000) : EvI K (tOp (MtT.rRepA K) ta tb) σ H (.tuple (List.replicate n ds).flatten) := fun H1 f Q q =>
  ha H1 f _ fun v H2 f2 im => hb H2 (f.trans f2) _ fun u H3 f3 im' => by
    have im := f3.im im
    cases im'
    cases im with
    | @tup a xs _ hS hz ha =>
      have l1 := ha.len
      have hds : 1 ≤ ds.length := by
        cases ds with
        | nil => exact absurd rfl hne
        | cons _ _ => simp
      have hn : n ≤ 1000 := Nat.le_trans (by rw [Nat.mul_comm]; exact Nat.le_mul_of_pos_left n hds) hl
      refine ⟨a, (n : Nat), xs, rfl, rfl, hS, fun e => hne (by rw [e] at l1; exact List.eq_nil_of_length_eq_zero l1.symm), by omega, by omega, hz, fun e => ?_, fun _ p np => ?_⟩
      · obtain rfl : n = 1 := by omega
        simp only [List.replicate_succ, List.replicate_zero, List.flatten_cons, List.flatten_nil, List.append_nil] at q
        exact q _ _ (f2.trans f3) (.tup hS hz ha)
      · have e : ((n : Nat) : Int).toNat = n := Int.toNat_natCast n
        rw [e]
        refine q _ _ ((f2.trans f3).trans (Fm.new np)) (.tup (SqT.of upd_same) ?_ ((ha.rep n).mono (Tu.new np)))
        rw [lm_len_rep_flat, l1]
        exact hl
/-- a written list of such -/
theorem el_lst {t : TA} {Q : VK} (h : EvIA K t σ H ds) (hl : ds.length ≤ 1000) (k : ∀ vs p H2, Fm M0 H H2 → H p = none → H2 p = some (.lst vs) → ImA K H2 vs ds → Q (.ref p) H2) : tLst t σ H Q :=
  h H (Fm.refl H) _ fun vs H2 f2 ims => ⟨Nat.le_trans (by rw [ims.len]; exact hl) (by decide), fun p np => k vs p _ (f2.trans (Fm.new np)) (f2.fresh np (fun z => z)) upd_same (ims.mono (Tu.new np))⟩
theorem ei_len (ha : EvI K ta σ H (.tuple ds)) : EvI K (tCB (fun xs H Q => ∃ x n, xs = [x] ∧ LenV K x H n ∧ Q (.int n) H) (tCons ta tNil)) σ H (.int (ds.length : Nat)) := fun H1 f Q q =>
  ha H1 f _ fun v H2 f2 im => by
    cases im with
    | @tup a xs _ hS hz ha => exact ⟨.ref a, xs.length, rfl, .inr ⟨_, hS, rfl⟩, by rw [ha.len]; exact q _ _ f2 (.int _)⟩
theorem tnx {X : L2.St → Hp → Prop} {rt : VK} {bk ct : L2.St → Hp → Prop} (h : X σ H) : tNext ⟨X, rt, bk, ct⟩ σ H := h
/-- for .. in [a, b, ..]: the items first -/
theorem forL {t : TA} {g : TG} {tb : TS} {u : TS} {D : Ends}
    (h : t σ H fun xs H1 => xs.length ≤ sizeLine ∧ ∀ p, H1 p = none → ∃ a, V.ref p = .ref a ∧ (∃ ys, SqL K (upd H1 p (.lst xs)) a ys) ∧ tFor (fun _ H R => R (Itl K a) H) g tb { D with nx := u D } σ (upd H1 p (.lst xs))) :
    tSeq (tFor (iList K (tLst t)) g tb) u D σ H := h
/-- one argument, then the others -/
theorem eia_step {tr : TA} {Q : List V → Hp → Prop} (h : EvI K te σ H d) (k : ∀ v H2, Fm M0 H H2 → Im K H2 v d → tr σ H2 fun xs H3 => Q (v :: xs) H3) : tCons te tr σ H Q := h H (Fm.refl H) _ k
/-- x = [..][e]; rest -/
theorem st_ixS {u : TS} {D : Ends} {i : Nat} {t : TA} {r : R2} (h : EvIA K t σ H ds) (hl : ds.length ≤ 1000)
    (k : ∀ vs p H2, Fm M0 H H2 → H p = none → H2 p = some (.lst vs) → ImA K H2 vs ds → tb σ H2 fun y H3 => r (.ref p) y H3 fun x H4 => u D (σ.set i (some x)) H4) : tSeq (tAsg (tOp r (tLst t) tb) (gName i)) u D σ H :=
  el_lst (Q := fun x H1 => tb σ H1 fun y H2 => r x y H2 fun z H3 => u D (σ.set i (some z)) H3) h hl k
/-- t + u of plain tuples -/
theorem cat_im {x y : V} {Q : VK} (hx : Im K H x (.tuple ds)) (hy : Im K H y (.tuple es)) (hl : ds.length + es.length ≤ 1000) (q : ∀ v H2, Fm M0 H H2 → Im K H2 v (.tuple (ds ++ es)) → Q v H2) : rCatA K x y H Q := by
  cases hx with
  | @tup a xs _ hS hz ha =>
    cases hy with
    | @tup b ys _ hS' hz' hb =>
      have l1 := ha.len
      have l2 := hb.len
      refine ⟨a, b, xs, ys, rfl, rfl, hS, hS', Nat.le_trans (by omega : _ ≤ 1000) (by decide), fun e => ?_, fun _ e => ?_, fun _ _ p np => ?_⟩
      · subst e
        cases ha
        exact q _ _ (Fm.refl H) (.tup hS' hz' hb)
      · subst e
        cases hb
        rw [List.append_nil] at q
        exact q _ _ (Fm.refl H) (.tup hS hz ha)
      · exact q _ _ (Fm.new np) (.tup (SqT.of upd_same) (by rw [List.length_append]; omega) ((ha.append hb).mono (Tu.new np)))
theorem gset {i : Nat} {v : V} {Q : L2.St → Hp → Prop} (h : Q (σ.set i (some v)) H) : gName i v σ H Q := h
theorem nxI {X : L2.St → Hp → Prop} {rt : VK} {bk ct : L2.St → Hp → Prop} (h : X σ H) : Ends.nx ⟨X, rt, bk, ct⟩ σ H := h
/-- x = e; rest -/
theorem st_setS {u : TS} {D : Ends} {i : Nat} (h : EvI K te σ H d) (k : ∀ v H2, Fm M0 H H2 → Im K H2 v d → u D (σ.set i (some v)) H2) : tSeq (tAsg te (gName i)) u D σ H := h H (Fm.refl H) _ k
theorem st_lstS {u : TS} {D : Ends} {i : Nat} {t : TA} (h : EvIA K t σ H ds) (hl : ds.length ≤ 1000) (k : ∀ vs p H2, Fm M0 H H2 → H p = none → H2 p = some (.lst vs) → ImA K H2 vs ds → u D (σ.set i (some (.ref p))) H2) : tSeq (tAsg (tLst t) (gName i)) u D σ H :=
  el_lst (Q := fun x H1 => u D (σ.set i (some x)) H1) h hl k
/-- ds[lo:hi] -/
def cutP (ds : List PyData) (lo hi : Option Int) : List PyData := (ds.drop (HT.sIx ds.length 0 lo)).take (HT.sIx ds.length ds.length hi - HT.sIx ds.length 0 lo)
theorem ei_slice {tl th : TO} {lo hi : Option Int} (ha : EvI K ta σ H (.tuple ds)) (hl : EvIO tl σ lo) (hh : EvIO th σ hi) : EvI K (tSl (rSlA K) ta tl th) σ H (.tuple (cutP ds lo hi)) := fun H1 f Q q =>
  ha H1 f _ fun v H2 f2 im => hl H2 _ (hh H2 _ (by
    cases im with
    | @tup a xs _ hS hz ha =>
      have l1 := ha.len
      refine ⟨a, xs, rfl, hS, fun e => ?_, fun _ p np => ?_⟩
      · have : cutP ds lo hi = ds := by
          unfold cutP
          rw [← l1, e.1, e.2, List.drop_zero, Nat.sub_zero, l1, List.take_length]
        rw [this] at q
        exact q _ _ f2 (.tup hS hz ha)
      · refine q _ _ (f2.trans (Fm.new np)) (.tup (SqT.of upd_same) ?_ ?_)
        · unfold cutV
          rw [List.length_take, List.length_drop]
          omega
        · unfold cutV cutP
          rw [← l1]
          exact ((ha.drop _).take _).mono (Tu.new np)))
theorem eo_none : EvIO tNoPart σ none := fun H Q q => q
theorem eo_some {i : Int} : EvIO (tPart (tC (.int i))) σ (some i) := fun H Q q => ⟨i, rfl, q⟩
theorem eo_neg {i : Int} : EvIO (tPart (tUn (rU fun i => .int (-i)) (tC (.int i)))) σ (some (-i)) := fun H Q q => ⟨i, rfl, -i, rfl, q⟩
theorem ei_ix {i : Nat} (ha : EvI K ta σ H (.tuple ds)) (e : ds[i]? = some d) : EvI K (tOp (rIxT K) ta (tC (.int (i : Nat)))) σ H d := fun H1 f Q q =>
  ha H1 f _ fun v H2 f2 im => by
    cases im with
    | @tup a xs _ hS hz ha =>
      obtain ⟨x, hx, im⟩ := ha.get' e
      exact ⟨a, xs, _, x, rfl, rfl, hS, atI_nat hx, q _ _ f2 im⟩
end
end Mt

/-! len(set(xs)), xs a list of any texts -/
namespace MtS
open PySem PySem.Spec PyProof.Rows
/-- one more text met -/
def put1 (acc : List Str) (x : Str) : List Str := if acc.any (· == x) then acc else acc ++ [x]
/-- the different ones, each once -/
def met (xs : List Str) : List Str := xs.foldl put1 []
theorem met_snoc (xs : List Str) (x : Str) : met (xs ++ [x]) = put1 (met xs) x := by
  unfold met
  rw [List.foldl_append]
  rfl
theorem met_take {xs : List Str} {i : Nat} (h : i < xs.length) : met (xs.take (i + 1)) = put1 (met (xs.take i)) (xs.getD i Str.empty) := by
  rw [List.take_add_one, List.getElem?_eq_getElem h, List.getD_eq_getElem?_getD, List.getElem?_eq_getElem h]
  exact met_snoc _ _
theorem put1_le (acc : List Str) (x : Str) : (put1 acc x).length ≤ acc.length + 1 := by
  unfold put1
  split <;> simp
theorem fold_le : ∀ (xs acc : List Str), (xs.foldl put1 acc).length ≤ acc.length + xs.length
  | [], acc => by simp
  | x :: r, acc => by
    have h1 := fold_le r (put1 acc x)
    have h2 := put1_le acc x
    simp only [List.foldl_cons, List.length_cons]
    omega
theorem met_le (xs : List Str) : (met xs).length ≤ xs.length := by
  have := fold_le xs []
  simpa [met] using this
theorem put1_any (acc : List Str) (x k : Str) : (acc.any (· == k) || decide (k = x)) = (put1 acc x).any (· == k) := by
  unfold put1
  by_cases h : acc.any (· == x) = true
  · rw [if_pos h]
    by_cases e : k = x
    · subst e; rw [h]; rfl
    · rw [decide_eq_false e, Bool.or_false]
  · rw [if_neg h, List.any_append]
    congr 1
    by_cases e : k = x
    · subst e; simp
    · have : (x == k) = false := by rw [beq_eq_false_iff_ne]; exact fun z => e z.symm
      rw [decide_eq_false e]
      simp [this]
/-- all are different exactly if none is dropped -/
theorem fold_nodup : ∀ (xs acc : List Str), acc.Nodup → ((xs.foldl put1 acc).length = acc.length + xs.length ↔ (acc ++ xs).Nodup)
  | [], acc, h => by simp [h]
  | x :: r, acc, h => by
    simp only [List.foldl_cons, List.length_cons]
    by_cases hx : acc.any (· == x) = true
    · have e : put1 acc x = acc := by unfold put1; rw [if_pos hx]
      rw [e]
      have h1 := fold_le r acc
      constructor
      · intro z; omega
      · intro z
        obtain ⟨y, hy, ey⟩ := List.any_eq_true.mp hx
        have ey : y = x := by simpa using ey
        subst ey
        have := (List.nodup_append.mp z).2.2 y hy y (List.mem_cons_self)
        exact absurd rfl this
    · have e : put1 acc x = acc ++ [x] := by unfold put1; rw [if_neg hx]
      have nd : (acc ++ [x]).Nodup := by
        rw [List.nodup_append]
        refine ⟨h, by simp, fun a ha b hb => ?_⟩
        have hb : b = x := by simpa using hb
        subst hb
        intro z
        subst z
        exact hx (List.any_eq_true.mpr ⟨a, ha, by simp⟩)
      rw [e]
      have ih := fold_nodup r (acc ++ [x]) nd
      rw [List.length_append, List.length_singleton, List.append_assoc, List.singleton_append] at ih
      rw [← ih]
      constructor <;> intro z <;> omega
theorem met_nodup (xs : List Str) : (met xs).length = xs.length ↔ xs.Nodup := by
  have := fold_nodup xs [] List.nodup_nil
  simpa [met] using this
theorem size_congr {prog : Program} {w : World} {h : Heap} {a : Addr} {S S' : Str → Bool} {n n' : Nat} (hS : h.SetOf (PySem.strKind prog w) a S n) (e : ∀ k, S k = S' k) (en : n = n') : h.SetOf (PySem.strKind prog w) a S' n' := by
  have : S = S' := funext e
  subst this
  subst en
  exact hS
section
variable {prog : Program} {w : World} {A : Around} {R : Result → Shared → Prop} {I : Addr} {fp wr : List Addr} {G : Array GenState → Array GenState → Prop} {n : Nat} {P : Nat → Value → Prop} {St : Nat → Shared → Prop}
/-- what the set is behind i texts -/
abbrev Has (prog : Program) (w : World) (S : Addr) (xs : List Str) (i : Nat) (h : Heap) : Prop := h.SetOf (PySem.strKind prog w) S (fun k => (met (xs.take i)).any (· == k)) (met (xs.take i)).length
theorem loopT (W : WalksS prog w A.in1 I fp wr G n P St) (S : Addr) (hSf : S ∉ fp) (xs : List Str) (hsz : xs.length = n) (hn : n + 1 < scanBound) (hval : ∀ i v, P i v → ∃ t, v = .str (xs.getD i Str.empty) t) :
    ∀ (k i : Nat) (s : Shared), n - i = k → i ≤ n → St i s → Has prog w S xs i s.heap →
      (∀ s', Moved (S :: wr) G s s' → Has prog w S xs n s'.heap → R (.ok (.ret .none)) s') → codeAny (model prog w) A (.builtin "set.update.loop" ⟨[.ref S, .ref I], []⟩) R s := by
  have hSw : S ∉ wr := fun h => hSf (W.sub _ h)
  have hsub : ∀ b ∈ wr, b ∈ S :: wr := fun b hb => List.mem_cons_of_mem _ hb
  have stay : ∀ {i : Nat} {s s' : Shared}, Moved wr G s s' → Has prog w S xs i s.heap → Has prog w S xs i s'.heap := fun hm ⟨o, es, ep, t, ho, rest⟩ => ⟨o, es, ep, t, hm.heap S _ hSw ho, rest⟩
  intro k
  induction k with
  | zero =>
    intro i s hk hi hst hS hR
    obtain rfl : i = n := by omega
    refine codeAny_builtin PyProof.Rows.F.entry_set_update_loop ?_
    rw [Around.under_plainId PyProof.Rows.F.plain_set_update_loop _]
    show wpAny _ A.in1 (pyNext (.ref I) >>= _) _ _ s
    exact wpAny_bind (W.done s _ _ hst fun s' hm => wpAny_pure (hR s' (hm.mono hsub) (stay hm hS)))
  | succ k ih =>
    intro i s hk hi hst hS hR
    have hlt : i < n := by omega
    refine codeAny_builtin PyProof.Rows.F.entry_set_update_loop ?_
    rw [Around.under_plainId PyProof.Rows.F.plain_set_update_loop _]
    show wpAny _ A.in1 (pyNext (.ref I) >>= _) _ _ s
    refine wpAny_bind (W.item i s _ _ hlt hst fun v s' hP hst' hm => ?_)
    obtain ⟨t, rfl⟩ := hval i v hP
    have hS' := stay hm hS
    have hle : (met (xs.take i)).length ≤ i := Nat.le_trans (met_le _) (by rw [List.length_take]; omega)
    show wpAny _ A.in1 (holding [Value.str (xs.getD i Str.empty) t] (setAdd S (.str (xs.getD i Str.empty) t)) >>= _) _ _ s'
    refine wpAny_bind (wpAny_holding ?_)
    unfold setAdd
    refine wpAny_holding (wpAny_bind ((PySem.strKind prog w).pyHash (k := xs.getD i Str.empty) (strKind_is _ _ _ _) ?_))
    refine wpAny_setAddHashed_of (knd := PySem.strKind prog w) (s := { s' with toks := s'.toks + 1 }) (strKind_is _ _ _ _) rfl hS' (by omega) fun h' hsb hS2 => ?_
    have hSi : Has prog w S xs (i + 1) h' := by
      have e := met_take (xs := xs) (i := i) (by omega)
      refine size_congr hS2 (fun k' => ?_) ?_
      · rw [e]
        exact put1_any _ _ _
      · rw [e]
        unfold put1
        split
        · rfl
        · simp
    refine wpAny_pure ⟨plainId_quiet PyProof.Rows.F.plain_set_update_loop _, ih (i + 1) _ (by omega) hlt (W.frame _ s' _ _ hst' (Nat.le_succ _) fun b hb o e => ?_) hSi fun s'' hm'' hS'' => ?_⟩
    · exact (hsb.2 b fun h : b = S => hSf (by rw [← h]; exact hb)).trans e
    · exact hR s'' (Moved.trans W.gtrans ((hm.mono hsub).then_heap (Nat.le_succ _) fun b o hb e => (hsb.2 b fun h : b = S => hb (by rw [h]; exact List.mem_cons_self)).trans e) hm'') hS''
end
section
variable {prog : Program} {w : World} {A : Around} {E : Value → Shared → Prop} {s : Shared}
/-- the object that set() lays first -/
abbrev fresh (led : Bool) : Obj := { cls := .type "set", dict := none, data := .set #[] 0 (.fresh 0 0 led) }
theorem strsAt {us : List Value} {xs : List Str} (h : StrsAre us xs) (i : Nat) (v : Value) (e : us[i]? = some v) : ∃ t, v = .str (xs.getD i Str.empty) t := SS.strs_at h i v e
/-- what set(list) leaves -/
abbrev Left (prog : Program) (w : World) (s : Shared) (xs : List Str) (s' : Shared) : Prop :=
  ∃ h' tk, s' = { s with heap := h', toks := tk } ∧ Has prog w s.heap.objs.size xs xs.length h' ∧ ∀ b o, b < s.heap.objs.size → s.heap.get? b = some o → h'.get? b = some o
theorem call_set_T {l : Addr} {items : Array Value} {xs : List Str} {Q : Value → Shared → Prop} (hh : A.handled = none) (hl : s.heap.IsList l items) (hi : StrsAre items.toList xs) (hb : xs.length + 1 < scanBound)
    (h : ∀ s', Left prog w s xs s' → Q (.ref s.heap.objs.size) s') : wpAny (model prog w) A (call (.type "set") [.ref l]) Q E s := by
  have hsz : xs.length = items.size := by rw [← StrsAre.len_eq hi, Array.length_toList]
  obtain ⟨c, tl, hmro⟩ := PySem.F.called_set.mro
  have m1 := PySem.F.called_set.made
  have m2 := PySem.F.called_set.sub
  have m3 := PySem.F.called_set.notType
  have m4 := PySem.F.called_set.canCreate
  have m5 := PySem.F.typeCall_set_1 (.ref l)
  refine wpAny_call (codeAny_of_tree ?_)
  show wpAny _ _ (callAny (.type "set") _) _ _ _
  refine wpAny_pure ⟨Code.quiet_builtin _ (by decide +kernel), codeAny_builtin PySem.F.entry_type_call ?_⟩
  rw [Around.under_plain (weight_type_call_type "set" [.ref l] []) rfl]
  repeat (any_goals (first | assumption | wp_step))
  refine codeAny_mono (code_set_new_1 (.ref l) (E := E) (Q₁ := fun obj s₁ => ∃ led, obj = .ref s.heap.objs.size ∧ s₁ = { s with heap := s.heap.push (fresh led) }) fun led => ⟨led, rfl, rfl⟩) fun r s₁ hr => ?_
  cases r with
  | error e => exact hr
  | ok fl =>
    cases fl with
    | ret obj =>
      obtain ⟨led, rfl, rfl⟩ := hr
      have hS : (s.heap.push (fresh led)).get? s.heap.objs.size = some (fresh led) := Heap.get?_push_size _ rfl
      have hT : Shared.TypeIs { s with heap := s.heap.push (fresh led) } (.ref s.heap.objs.size) "set" := ⟨_, hS, rfl⟩
      have n1 := PySem.F.called_set.init.lookup
      have n2 := PySem.F.called_set.init.bind (.ref s.heap.objs.size)
      repeat (any_goals (first | assumption | wp_step))
      refine codeAny_mono (codeAny_call_builtin (R := wants (fun r s₂ => r = .none ∧ Left prog w s xs s₂) E) PySem.F.called_set.init.plain PySem.F.entry_set_init (check_set_init_1 hT ?_)) fun r₂ s₂ hr₂ => ?_
      · obtain ⟨ol, hol, hcl, nl, hdl⟩ := hl
        obtain ⟨ocls, odict, odata, oslots⟩ := ol
        simp only at hcl hdl
        subst hcl
        subst hdl
        have hlS : l < s.heap.objs.size := Heap.lt_size hol
        have hol' : (s.heap.push (fresh led)).get? l = some { cls := .type "list", dict := odict, data := .seq items nl, slots := oslots } := Heap.get?_push_of_some _ hol
        have hl1 : (s.heap.push (fresh led)).IsList l items := ⟨_, hol', rfl, nl, rfl⟩
        have o1 := PySem.F.sub_list_set
        have o2 := PySem.F.sub_list_frozenset
        have o3 : (Value.type "list" == Value.type "dict") = false := by decide
        have hI : (s.heap.push (fresh led)).objs.size = s.heap.objs.size + 1 := Heap.size_push _ _
        unfold Builtin.«set.__init__» noKeywords Builtin.Frozenset.updateFrom
        generalize hPI : pyIter = PI
        wp_walk
        subst hPI
        refine wpAny_pyIter_list hl1 (wpAny_bind (wpAny_runValue ?_))
        refine loopT ((Walks.list (A := A.in1.in1.in1) (by simp [hh]) _ l (by rw [hI]; exact Nat.ne_of_lt (Nat.lt_succ_of_lt hlS)) items).toS) s.heap.objs.size ?out xs hsz (by rw [← hsz]; exact hb)
          (fun i v hv => strsAt hi i v (by rw [Array.getElem?_toList]; exact hv)) items.size 0 _ (by omega) (Nat.zero_le _) ⟨⟨_, Heap.get?_push_size _ rfl, rfl, rfl⟩, (hl1.push _)⟩ ?start ?fin
        case out =>
          rw [hI]
          simp only [List.mem_cons, List.mem_singleton, List.not_mem_nil, or_false, not_or]
          exact ⟨Nat.ne_of_lt (Nat.lt_succ_self _), Nat.ne_of_gt hlS⟩
        case start =>
          exact size_congr ((PyProof.Rows.setObjOf_fresh (knd := PySem.strKind prog w) led).setOf (Heap.get?_push_of_some _ hS) (by unfold scanBound; omega)) (fun _ => rfl) rfl
        case fin =>
          intro s' hm hS'
          obtain ⟨h', g', d', tk', os'⟩ := s'
          obtain rfl : g' = s.gens := hm.gens
          obtain rfl : d' = s.drawn := hm.drawn
          obtain rfl : os' = s.os := hm.os
          refine wpAny_pure (wpAny_pure ⟨rfl, h', tk', rfl, by rw [hsz]; exact hS', fun b o hb e => ?_⟩)
          refine hm.heap b o ?_ (Heap.get?_push_of_some _ (Heap.get?_push_of_some _ e))
          simp only [List.mem_cons, List.mem_singleton, List.not_mem_nil, or_false, not_or]
          exact ⟨Nat.ne_of_lt hb, by rw [hI]; exact Nat.ne_of_lt (Nat.lt_succ_of_lt hb)⟩
      · cases r₂ with
        | error e => exact hr₂
        | ok fl₂ =>
          cases fl₂ with
          | ret r =>
            obtain ⟨rfl, left⟩ := hr₂
            repeat (any_goals (first | assumption | wp_step))
            exact h _ left
          | _ => exact hr₂.elim
    | _ => exact hr.elim
end
end MtS
namespace L2
open PySem PySem.Spec PyProof.Rows
def tLenSetT (K : PySem.W.Frag) (ta : TE) : TE := fun σ H Q => ta σ H fun x H1 => ∃ (l : Addr) (xs : List Str), x = .ref l ∧ SqL K H1 l (xs.map V.str) ∧ xs.length ≤ 4000 ∧ Q (.int ((MtS.met xs).length : Nat)) H1
theorem pe_lenSetS {X : Cx} {a : Expr} {ta : TE} {p p2 q pos : Pos} (hg : Gl X "len") (hm : X.mg "len" = none) (hg2 : Gl X "set") (hm2 : X.mg "set" = none) (ha : PE X a ta) (hc : X.calm = true := by rfl)
    (na : starEach [a] X.env = (false, eval a X.env) :: starEach [] X.env := by rfl) : PE X (.Call (.Name "len" p) [.Call (.Name "set" p2) [a] [] q] [] pos) (tLenSetT X.K ta) := by
  refine ⟨fun pins s σ H Q I h => ?_⟩
  refine Call_ (ld_blt I hg hm boot_len (callWith_builtin1 (args_cons ?_ rfl) rfl rfl))
  refine Call_ (ld_blt I hg2 hm2 boot_set (callWith_type1 (args_cons (thn (ha.run pins s σ H _ I h) fun v s1 ⟨x, H1, I1, r1, q1⟩ => args_nil ?_) na) na rfl))
  obtain ⟨l, xs, rfl, hq, hl, q1⟩ := q1
  cases r1
  obtain ⟨its, r, pl, hz⟩ := I1.list hq
  refine MtS.call_set_T (xs := xs) (I1.ok.hd hc) pl.isList (by simpa using strsAre_of r) (by unfold scanBound; omega) fun s' ⟨h', tk, e, hS, hk⟩ => args_nil ?_
  subst e
  unfold MtS.Has at hS
  rw [List.take_length] at hS
  obtain ⟨o, es, ep, t, ho, hex, hd, _, _, _, hf, hn⟩ := hS
  have I2 : Inv X pins σ H1 { s1 with heap := h', toks := tk } := I1.kept fun b o e => hk b o (Heap.lt_size e) e
  have := MtS.met_le xs
  exact call_len_set ho hex hd hf (by rw [hn] <;> omega) ⟨.int (MtS.met xs).length, H1, I2.tok _, ⟨_, by rw [hn]⟩, q1⟩
end L2

namespace Mt
open PySem PySem.Spec PyProof.Rows L2
def topS (i : Nat) : Stmt := PySem.Challenge.pw_mintlaw_k00_forms.main.body.getD i (.Pass ⟨0, 0, 0, 0⟩)
abbrev s_is_number : Stmt := topS 8
abbrev N_is_number : List Str := ["value", "least", "most"]
theorem sc_is_number : FnScope N_is_number ["value", "least", "most"] (defScope s_is_number) := ⟨rfl, rfl, rfl, by decide +kernel, rfl, by decide +kernel, by decide +kernel⟩
abbrev s_is_name : Stmt := topS 9
abbrev N_is_name : List Str := ["value", "char"]
theorem sc_is_name : FnScope N_is_name ["value"] (defScope s_is_name) := ⟨rfl, rfl, rfl, by decide +kernel, rfl, by decide +kernel, by decide +kernel⟩
abbrev s_is_entries : Stmt := topS 10
abbrev N_is_entries : List Str := ["value", "count", "least", "most", "entry"]
theorem sc_is_entries : FnScope N_is_entries ["value", "count", "least", "most"] (defScope s_is_entries) := ⟨rfl, rfl, rfl, by decide +kernel, rfl, by decide +kernel, by decide +kernel⟩
abbrev s_is_move : Stmt := topS 11
abbrev N_is_move : List Str := ["count", "value", "stock", "k"]
theorem sc_is_move : FnScope N_is_move ["count", "value"] (defScope s_is_move) := ⟨rfl, rfl, rfl, by decide +kernel, rfl, by decide +kernel, by decide +kernel⟩
abbrev s_is_book : Stmt := topS 12
abbrev N_is_book : List Str := ["value", "kinds", "moves", "kind", "move", "names"]
theorem sc_is_book : FnScope N_is_book ["value"] (defScope s_is_book) := ⟨rfl, rfl, rfl, by decide +kernel, rfl, by decide +kernel, by decide +kernel⟩
abbrev s_is_stock : Stmt := topS 13
abbrev N_is_stock : List Str := ["book", "value"]
theorem sc_is_stock : FnScope N_is_stock ["book", "value"] (defScope s_is_stock) := ⟨rfl, rfl, rfl, by decide +kernel, rfl, by decide +kernel, by decide +kernel⟩
abbrev s_is_extended : Stmt := topS 14
abbrev N_is_extended : List Str := ["book", "value"]
theorem sc_is_extended : FnScope N_is_extended ["book", "value"] (defScope s_is_extended) := ⟨rfl, rfl, rfl, by decide +kernel, rfl, by decide +kernel, by decide +kernel⟩
abbrev s_is_step : Stmt := topS 15
abbrev N_is_step : List Str := ["book", "value", "nested"]
theorem sc_is_step : FnScope N_is_step ["book", "value", "nested"] (defScope s_is_step) := ⟨rfl, rfl, rfl, by decide +kernel, rfl, by decide +kernel, by decide +kernel⟩
abbrev s_are_steps : Stmt := topS 16
abbrev N_are_steps : List Str := ["book", "value", "nested", "step"]
theorem sc_are_steps : FnScope N_are_steps ["book", "value", "nested"] (defScope s_are_steps) := ⟨rfl, rfl, rfl, by decide +kernel, rfl, by decide +kernel, by decide +kernel⟩
abbrev s_is_run : Stmt := topS 17
abbrev N_is_run : List Str := ["book", "value"]
theorem sc_is_run : FnScope N_is_run ["book", "value"] (defScope s_is_run) := ⟨rfl, rfl, rfl, by decide +kernel, rfl, by decide +kernel, by decide +kernel⟩
abbrev s_move_index : Stmt := topS 18
abbrev N_move_index : List Str := ["book", "name", "m"]
theorem sc_move_index : FnScope N_move_index ["book", "name"] (defScope s_move_index) := ⟨rfl, rfl, rfl, by decide +kernel, rfl, by decide +kernel, by decide +kernel⟩
abbrev s_law_same : Stmt := topS 20
abbrev N_law_same : List Str := ["a", "b", "k", "key"]
theorem sc_law_same : FnScope N_law_same ["a", "b"] (defScope s_law_same) := ⟨rfl, rfl, rfl, by decide +kernel, rfl, by decide +kernel, by decide +kernel⟩
abbrev s_law_mix : Stmt := topS 21
abbrev N_law_mix : List Str := ["first", "second", "value"]
theorem sc_law_mix : FnScope N_law_mix ["first", "second"] (defScope s_law_mix) := ⟨rfl, rfl, rfl, by decide +kernel, rfl, by decide +kernel, by decide +kernel⟩
abbrev s_law_numbers : Stmt := topS 22
abbrev N_law_numbers : List Str := ["script", "count", "found", "total", "cell", "number", "k"]
theorem sc_law_numbers : FnScope N_law_numbers ["script", "count"] (defScope s_law_numbers) := ⟨rfl, rfl, rfl, by decide +kernel, rfl, by decide +kernel, by decide +kernel⟩
abbrev s_law_draws : Stmt := topS 23
abbrev N_law_draws : List Str := ["script", "count"]
theorem sc_law_draws : FnScope N_law_draws ["script", "count"] (defScope s_law_draws) := ⟨rfl, rfl, rfl, by decide +kernel, rfl, by decide +kernel, by decide +kernel⟩
abbrev s_law_take : Stmt := topS 24
abbrev N_law_take : List Str := ["draws", "bound", "row", "at", "value"]
theorem sc_law_take : FnScope N_law_take ["draws", "bound"] (defScope s_law_take) := ⟨rfl, rfl, rfl, by decide +kernel, rfl, by decide +kernel, by decide +kernel⟩
abbrev s_law_named : Stmt := topS 25
abbrev N_law_named : List Str := ["draws", "small", "names", "k", "size", "rest", "n"]
theorem sc_law_named : FnScope N_law_named ["draws"] (defScope s_law_named) := ⟨rfl, rfl, rfl, by decide +kernel, rfl, by decide +kernel, by decide +kernel⟩
abbrev s_law_stock : Stmt := topS 26
abbrev N_law_stock : List Str := ["draws", "n", "most", "entries", "k", "entry"]
theorem sc_law_stock : FnScope N_law_stock ["draws", "n", "most"] (defScope s_law_stock) := ⟨rfl, rfl, rfl, by decide +kernel, rfl, by decide +kernel, by decide +kernel⟩
abbrev s_law_book : Stmt := topS 27
abbrev N_law_book : List Str := ["draws", "most", "names", "n", "moves", "k", "take", "high", "low", "entry"]
theorem sc_law_book : FnScope N_law_book ["draws", "most"] (defScope s_law_book) := ⟨rfl, rfl, rfl, by decide +kernel, rfl, by decide +kernel, by decide +kernel⟩
abbrev s_law_run : Stmt := topS 28
abbrev N_law_run : List Str := ["draws", "moves", "depth", "times", "steps", "k", "inner"]
theorem sc_law_run : FnScope N_law_run ["draws", "moves", "depth", "times"] (defScope s_law_run) := ⟨rfl, rfl, rfl, by decide +kernel, rfl, by decide +kernel, by decide +kernel⟩
abbrev s_law_bad_book : Stmt := topS 29
abbrev N_law_bad_book : List Str := ["draws", "book", "kinds", "moves", "n", "zero", "good", "bad", "k"]
theorem sc_law_bad_book : FnScope N_law_bad_book ["draws", "book"] (defScope s_law_bad_book) := ⟨rfl, rfl, rfl, by decide +kernel, rfl, by decide +kernel, by decide +kernel⟩
abbrev s_law_nested : Stmt := topS 30
abbrev N_law_nested : List Str := ["run", "depth", "k"]
theorem sc_law_nested : FnScope N_law_nested ["run", "depth"] (defScope s_law_nested) := ⟨rfl, rfl, rfl, by decide +kernel, rfl, by decide +kernel, by decide +kernel⟩
abbrev s_law : Stmt := topS 31
abbrev N_law : List Str := ["script", "draws", "book", "n", "name", "due", "answer", "stock", "wrong", "endless", "k", "run", "bad", "last"]
theorem sc_law : FnScope N_law ["script"] (defScope s_law) := ⟨rfl, rfl, rfl, by decide +kernel, rfl, by decide +kernel, by decide +kernel⟩
/-- a def of the text, as it stands behind the top -/
structure Df (K : PySem.W.Frag) (mg : Str → Option Value) (x : Str) (st : Stmt) (ps : List Str) (f : Addr) (fd : FuncData) : Prop where
  F : Fun K x x st f fd
  b : Binds K fd ps []
  m : mg x = some (.ref f)
/-- what the top has written -/
structure Wd (K : PySem.W.Frag) (mg : Str → Option Value) where
  a_is_number : Addr
  d_is_number : FuncData
  D_is_number : Df K mg "is_number" s_is_number ["value", "least", "most"] a_is_number d_is_number
  a_is_name : Addr
  d_is_name : FuncData
  D_is_name : Df K mg "is_name" s_is_name ["value"] a_is_name d_is_name
  a_is_entries : Addr
  d_is_entries : FuncData
  D_is_entries : Df K mg "is_entries" s_is_entries ["value", "count", "least", "most"] a_is_entries d_is_entries
  a_is_move : Addr
  d_is_move : FuncData
  D_is_move : Df K mg "is_move" s_is_move ["count", "value"] a_is_move d_is_move
  a_is_book : Addr
  d_is_book : FuncData
  D_is_book : Df K mg "is_book" s_is_book ["value"] a_is_book d_is_book
  a_is_stock : Addr
  d_is_stock : FuncData
  D_is_stock : Df K mg "is_stock" s_is_stock ["book", "value"] a_is_stock d_is_stock
  a_is_extended : Addr
  d_is_extended : FuncData
  D_is_extended : Df K mg "is_extended" s_is_extended ["book", "value"] a_is_extended d_is_extended
  a_is_step : Addr
  d_is_step : FuncData
  D_is_step : Df K mg "is_step" s_is_step ["book", "value", "nested"] a_is_step d_is_step
  a_are_steps : Addr
  d_are_steps : FuncData
  D_are_steps : Df K mg "are_steps" s_are_steps ["book", "value", "nested"] a_are_steps d_are_steps
  a_is_run : Addr
  d_is_run : FuncData
  D_is_run : Df K mg "is_run" s_is_run ["book", "value"] a_is_run d_is_run
  a_move_index : Addr
  d_move_index : FuncData
  D_move_index : Df K mg "move_index" s_move_index ["book", "name"] a_move_index d_move_index
  a__law_same : Addr
  d__law_same : FuncData
  D__law_same : Df K mg "_law_same" s_law_same ["a", "b"] a__law_same d__law_same
  a__law_mix : Addr
  d__law_mix : FuncData
  D__law_mix : Df K mg "_law_mix" s_law_mix ["first", "second"] a__law_mix d__law_mix
  a__law_numbers : Addr
  d__law_numbers : FuncData
  D__law_numbers : Df K mg "_law_numbers" s_law_numbers ["script", "count"] a__law_numbers d__law_numbers
  a__law_draws : Addr
  d__law_draws : FuncData
  D__law_draws : Df K mg "_law_draws" s_law_draws ["script", "count"] a__law_draws d__law_draws
  a__law_take : Addr
  d__law_take : FuncData
  D__law_take : Df K mg "_law_take" s_law_take ["draws", "bound"] a__law_take d__law_take
  a__law_named : Addr
  d__law_named : FuncData
  D__law_named : Df K mg "_law_named" s_law_named ["draws"] a__law_named d__law_named
  a__law_stock : Addr
  d__law_stock : FuncData
  D__law_stock : Df K mg "_law_stock" s_law_stock ["draws", "n", "most"] a__law_stock d__law_stock
  a__law_book : Addr
  d__law_book : FuncData
  D__law_book : Df K mg "_law_book" s_law_book ["draws", "most"] a__law_book d__law_book
  a__law_run : Addr
  d__law_run : FuncData
  D__law_run : Df K mg "_law_run" s_law_run ["draws", "moves", "depth", "times"] a__law_run d__law_run
  a__law_bad_book : Addr
  d__law_bad_book : FuncData
  D__law_bad_book : Df K mg "_law_bad_book" s_law_bad_book ["draws", "book"] a__law_bad_book d__law_bad_book
  a__law_nested : Addr
  d__law_nested : FuncData
  D__law_nested : Df K mg "_law_nested" s_law_nested ["run", "depth"] a__law_nested d__law_nested
  a_law : Addr
  d_law : FuncData
  D_law : Df K mg "law" s_law ["script"] a_law d_law
  B_law : ∀ (s : Shared) (v : Value), BindsTo s d_law ⟨[v], []⟩ [("script", v)]
  n_isinstance : mg "isinstance" = none
  n_int : mg "int" = none
  n_bool : mg "bool" = none
  n_str : mg "str" = none
  n_tuple : mg "tuple" = none
  n_list : mg "list" = none
  n_dict : mg "dict" = none
  n_len : mg "len" = none
  n_all : mg "all" = none
  n_range : mg "range" = none
  n_abs : mg "abs" = none
  n_min : mg "min" = none
  n_set : mg "set" = none
  u_SMALL : Tok
  c_SMALL : mg "SMALL" = some (.str "abcdefghijklmnopqrstuvwxyz" u_SMALL)
  u_DIGITS : Tok
  c_DIGITS : mg "DIGITS" = some (.str "0123456789" u_DIGITS)
  a_RESERVED : Addr
  c_RESERVED : mg "RESERVED" = some (.ref a_RESERVED)
  t_RESERVED : ∀ H, SqT K H a_RESERVED [.str "kinds", .str "nothing", .str "endless", .str "x"]
  u_MAX_KINDS : Tok
  c_MAX_KINDS : mg "MAX_KINDS" = some (.int 6 u_MAX_KINDS)
  u_MAX_MOVES : Tok
  c_MAX_MOVES : mg "MAX_MOVES" = some (.int 8 u_MAX_MOVES)
  u_MAX_ENTRY : Tok
  c_MAX_ENTRY : mg "MAX_ENTRY" = some (.int 1000 u_MAX_ENTRY)
  u_MAX_NESTED : Tok
  c_MAX_NESTED : mg "MAX_NESTED" = some (.int 30 u_MAX_NESTED)
def wd_mk {K : PySem.W.Frag} {h : Heap} {mg : Str → Option Value} (X : K.In h) (G : h.Ns mainGlobals mg)
    {f0 : Addr} {od0 an0 : Option Addr} {sl0 : Array (Option Value)} {oc0 kV0 dc0 pm0 cd0 ct0 : Value}
    {f1 : Addr} {od1 an1 : Option Addr} {sl1 : Array (Option Value)} {oc1 kV1 dc1 pm1 cd1 ct1 : Value}
    {f2 : Addr} {od2 an2 : Option Addr} {sl2 : Array (Option Value)} {oc2 kV2 dc2 pm2 cd2 ct2 : Value}
    {f3 : Addr} {od3 an3 : Option Addr} {sl3 : Array (Option Value)} {oc3 kV3 dc3 pm3 cd3 ct3 : Value}
    {f4 : Addr} {od4 an4 : Option Addr} {sl4 : Array (Option Value)} {oc4 kV4 dc4 pm4 cd4 ct4 : Value}
    {f5 : Addr} {od5 an5 : Option Addr} {sl5 : Array (Option Value)} {oc5 kV5 dc5 pm5 cd5 ct5 : Value}
    {f6 : Addr} {od6 an6 : Option Addr} {sl6 : Array (Option Value)} {oc6 kV6 dc6 pm6 cd6 ct6 : Value}
    {f7 : Addr} {od7 an7 : Option Addr} {sl7 : Array (Option Value)} {oc7 kV7 dc7 pm7 cd7 ct7 : Value}
    {f8 : Addr} {od8 an8 : Option Addr} {sl8 : Array (Option Value)} {oc8 kV8 dc8 pm8 cd8 ct8 : Value}
    {f9 : Addr} {od9 an9 : Option Addr} {sl9 : Array (Option Value)} {oc9 kV9 dc9 pm9 cd9 ct9 : Value}
    {f10 : Addr} {od10 an10 : Option Addr} {sl10 : Array (Option Value)} {oc10 kV10 dc10 pm10 cd10 ct10 : Value}
    {f11 : Addr} {od11 an11 : Option Addr} {sl11 : Array (Option Value)} {oc11 kV11 dc11 pm11 cd11 ct11 : Value}
    {f12 : Addr} {od12 an12 : Option Addr} {sl12 : Array (Option Value)} {oc12 kV12 dc12 pm12 cd12 ct12 : Value}
    {f13 : Addr} {od13 an13 : Option Addr} {sl13 : Array (Option Value)} {oc13 kV13 dc13 pm13 cd13 ct13 : Value}
    {f14 : Addr} {od14 an14 : Option Addr} {sl14 : Array (Option Value)} {oc14 kV14 dc14 pm14 cd14 ct14 : Value}
    {f15 : Addr} {od15 an15 : Option Addr} {sl15 : Array (Option Value)} {oc15 kV15 dc15 pm15 cd15 ct15 : Value}
    {f16 : Addr} {od16 an16 : Option Addr} {sl16 : Array (Option Value)} {oc16 kV16 dc16 pm16 cd16 ct16 : Value}
    {f17 : Addr} {od17 an17 : Option Addr} {sl17 : Array (Option Value)} {oc17 kV17 dc17 pm17 cd17 ct17 : Value}
    {f18 : Addr} {od18 an18 : Option Addr} {sl18 : Array (Option Value)} {oc18 kV18 dc18 pm18 cd18 ct18 : Value}
    {f19 : Addr} {od19 an19 : Option Addr} {sl19 : Array (Option Value)} {oc19 kV19 dc19 pm19 cd19 ct19 : Value}
    {f20 : Addr} {od20 an20 : Option Addr} {sl20 : Array (Option Value)} {oc20 kV20 dc20 pm20 cd20 ct20 : Value}
    {f21 : Addr} {od21 an21 : Option Addr} {sl21 : Array (Option Value)} {oc21 kV21 dc21 pm21 cd21 ct21 : Value}
    {f22 : Addr} {od22 an22 : Option Addr} {sl22 : Array (Option Value)} {oc22 kV22 dc22 pm22 cd22 ct22 : Value}
    {t_SMALL : Tok}
    {t_DIGITS : Tok}
    {g_RESERVED : Addr} {h_RESERVED : Option Addr} {i_RESERVED : Nat} {j_RESERVED : Array (Option Value)} {tRESERVED0 tRESERVED1 tRESERVED2 tRESERVED3 : Tok}
    {t_MAX_KINDS : Tok}
    {t_MAX_MOVES : Tok}
    {t_MAX_ENTRY : Tok}
    {t_MAX_NESTED : Tok}
    (a0 : PySem.W.nsIn K mainGlobals "is_number" = some (some (.ref f0))) (l0 : K.lookup f0 = some ⟨oc0, od0, .func (PySem.W.fnOf "is_number" "is_number" (defArgs s_is_number) (defBody s_is_number) (defScope s_is_number) .none kV0 dc0 pm0 an0 cd0 ct0), sl0⟩) (c0 : PySem.W.codeIn K cd0 "is_number" = true) (k0 : PySem.W.keepIn K (.ref f0) = true)
    (a1 : PySem.W.nsIn K mainGlobals "is_name" = some (some (.ref f1))) (l1 : K.lookup f1 = some ⟨oc1, od1, .func (PySem.W.fnOf "is_name" "is_name" (defArgs s_is_name) (defBody s_is_name) (defScope s_is_name) .none kV1 dc1 pm1 an1 cd1 ct1), sl1⟩) (c1 : PySem.W.codeIn K cd1 "is_name" = true) (k1 : PySem.W.keepIn K (.ref f1) = true)
    (a2 : PySem.W.nsIn K mainGlobals "is_entries" = some (some (.ref f2))) (l2 : K.lookup f2 = some ⟨oc2, od2, .func (PySem.W.fnOf "is_entries" "is_entries" (defArgs s_is_entries) (defBody s_is_entries) (defScope s_is_entries) .none kV2 dc2 pm2 an2 cd2 ct2), sl2⟩) (c2 : PySem.W.codeIn K cd2 "is_entries" = true) (k2 : PySem.W.keepIn K (.ref f2) = true)
    (a3 : PySem.W.nsIn K mainGlobals "is_move" = some (some (.ref f3))) (l3 : K.lookup f3 = some ⟨oc3, od3, .func (PySem.W.fnOf "is_move" "is_move" (defArgs s_is_move) (defBody s_is_move) (defScope s_is_move) .none kV3 dc3 pm3 an3 cd3 ct3), sl3⟩) (c3 : PySem.W.codeIn K cd3 "is_move" = true) (k3 : PySem.W.keepIn K (.ref f3) = true)
    (a4 : PySem.W.nsIn K mainGlobals "is_book" = some (some (.ref f4))) (l4 : K.lookup f4 = some ⟨oc4, od4, .func (PySem.W.fnOf "is_book" "is_book" (defArgs s_is_book) (defBody s_is_book) (defScope s_is_book) .none kV4 dc4 pm4 an4 cd4 ct4), sl4⟩) (c4 : PySem.W.codeIn K cd4 "is_book" = true) (k4 : PySem.W.keepIn K (.ref f4) = true)
    (a5 : PySem.W.nsIn K mainGlobals "is_stock" = some (some (.ref f5))) (l5 : K.lookup f5 = some ⟨oc5, od5, .func (PySem.W.fnOf "is_stock" "is_stock" (defArgs s_is_stock) (defBody s_is_stock) (defScope s_is_stock) .none kV5 dc5 pm5 an5 cd5 ct5), sl5⟩) (c5 : PySem.W.codeIn K cd5 "is_stock" = true) (k5 : PySem.W.keepIn K (.ref f5) = true)
    (a6 : PySem.W.nsIn K mainGlobals "is_extended" = some (some (.ref f6))) (l6 : K.lookup f6 = some ⟨oc6, od6, .func (PySem.W.fnOf "is_extended" "is_extended" (defArgs s_is_extended) (defBody s_is_extended) (defScope s_is_extended) .none kV6 dc6 pm6 an6 cd6 ct6), sl6⟩) (c6 : PySem.W.codeIn K cd6 "is_extended" = true) (k6 : PySem.W.keepIn K (.ref f6) = true)
    (a7 : PySem.W.nsIn K mainGlobals "is_step" = some (some (.ref f7))) (l7 : K.lookup f7 = some ⟨oc7, od7, .func (PySem.W.fnOf "is_step" "is_step" (defArgs s_is_step) (defBody s_is_step) (defScope s_is_step) .none kV7 dc7 pm7 an7 cd7 ct7), sl7⟩) (c7 : PySem.W.codeIn K cd7 "is_step" = true) (k7 : PySem.W.keepIn K (.ref f7) = true)
    (a8 : PySem.W.nsIn K mainGlobals "are_steps" = some (some (.ref f8))) (l8 : K.lookup f8 = some ⟨oc8, od8, .func (PySem.W.fnOf "are_steps" "are_steps" (defArgs s_are_steps) (defBody s_are_steps) (defScope s_are_steps) .none kV8 dc8 pm8 an8 cd8 ct8), sl8⟩) (c8 : PySem.W.codeIn K cd8 "are_steps" = true) (k8 : PySem.W.keepIn K (.ref f8) = true)
    (a9 : PySem.W.nsIn K mainGlobals "is_run" = some (some (.ref f9))) (l9 : K.lookup f9 = some ⟨oc9, od9, .func (PySem.W.fnOf "is_run" "is_run" (defArgs s_is_run) (defBody s_is_run) (defScope s_is_run) .none kV9 dc9 pm9 an9 cd9 ct9), sl9⟩) (c9 : PySem.W.codeIn K cd9 "is_run" = true) (k9 : PySem.W.keepIn K (.ref f9) = true)
    (a10 : PySem.W.nsIn K mainGlobals "move_index" = some (some (.ref f10))) (l10 : K.lookup f10 = some ⟨oc10, od10, .func (PySem.W.fnOf "move_index" "move_index" (defArgs s_move_index) (defBody s_move_index) (defScope s_move_index) .none kV10 dc10 pm10 an10 cd10 ct10), sl10⟩) (c10 : PySem.W.codeIn K cd10 "move_index" = true) (k10 : PySem.W.keepIn K (.ref f10) = true)
    (a11 : PySem.W.nsIn K mainGlobals "_law_same" = some (some (.ref f11))) (l11 : K.lookup f11 = some ⟨oc11, od11, .func (PySem.W.fnOf "_law_same" "_law_same" (defArgs s_law_same) (defBody s_law_same) (defScope s_law_same) .none kV11 dc11 pm11 an11 cd11 ct11), sl11⟩) (c11 : PySem.W.codeIn K cd11 "_law_same" = true) (k11 : PySem.W.keepIn K (.ref f11) = true)
    (a12 : PySem.W.nsIn K mainGlobals "_law_mix" = some (some (.ref f12))) (l12 : K.lookup f12 = some ⟨oc12, od12, .func (PySem.W.fnOf "_law_mix" "_law_mix" (defArgs s_law_mix) (defBody s_law_mix) (defScope s_law_mix) .none kV12 dc12 pm12 an12 cd12 ct12), sl12⟩) (c12 : PySem.W.codeIn K cd12 "_law_mix" = true) (k12 : PySem.W.keepIn K (.ref f12) = true)
    (a13 : PySem.W.nsIn K mainGlobals "_law_numbers" = some (some (.ref f13))) (l13 : K.lookup f13 = some ⟨oc13, od13, .func (PySem.W.fnOf "_law_numbers" "_law_numbers" (defArgs s_law_numbers) (defBody s_law_numbers) (defScope s_law_numbers) .none kV13 dc13 pm13 an13 cd13 ct13), sl13⟩) (c13 : PySem.W.codeIn K cd13 "_law_numbers" = true) (k13 : PySem.W.keepIn K (.ref f13) = true)
    (a14 : PySem.W.nsIn K mainGlobals "_law_draws" = some (some (.ref f14))) (l14 : K.lookup f14 = some ⟨oc14, od14, .func (PySem.W.fnOf "_law_draws" "_law_draws" (defArgs s_law_draws) (defBody s_law_draws) (defScope s_law_draws) .none kV14 dc14 pm14 an14 cd14 ct14), sl14⟩) (c14 : PySem.W.codeIn K cd14 "_law_draws" = true) (k14 : PySem.W.keepIn K (.ref f14) = true)
    (a15 : PySem.W.nsIn K mainGlobals "_law_take" = some (some (.ref f15))) (l15 : K.lookup f15 = some ⟨oc15, od15, .func (PySem.W.fnOf "_law_take" "_law_take" (defArgs s_law_take) (defBody s_law_take) (defScope s_law_take) .none kV15 dc15 pm15 an15 cd15 ct15), sl15⟩) (c15 : PySem.W.codeIn K cd15 "_law_take" = true) (k15 : PySem.W.keepIn K (.ref f15) = true)
    (a16 : PySem.W.nsIn K mainGlobals "_law_named" = some (some (.ref f16))) (l16 : K.lookup f16 = some ⟨oc16, od16, .func (PySem.W.fnOf "_law_named" "_law_named" (defArgs s_law_named) (defBody s_law_named) (defScope s_law_named) .none kV16 dc16 pm16 an16 cd16 ct16), sl16⟩) (c16 : PySem.W.codeIn K cd16 "_law_named" = true) (k16 : PySem.W.keepIn K (.ref f16) = true)
    (a17 : PySem.W.nsIn K mainGlobals "_law_stock" = some (some (.ref f17))) (l17 : K.lookup f17 = some ⟨oc17, od17, .func (PySem.W.fnOf "_law_stock" "_law_stock" (defArgs s_law_stock) (defBody s_law_stock) (defScope s_law_stock) .none kV17 dc17 pm17 an17 cd17 ct17), sl17⟩) (c17 : PySem.W.codeIn K cd17 "_law_stock" = true) (k17 : PySem.W.keepIn K (.ref f17) = true)
    (a18 : PySem.W.nsIn K mainGlobals "_law_book" = some (some (.ref f18))) (l18 : K.lookup f18 = some ⟨oc18, od18, .func (PySem.W.fnOf "_law_book" "_law_book" (defArgs s_law_book) (defBody s_law_book) (defScope s_law_book) .none kV18 dc18 pm18 an18 cd18 ct18), sl18⟩) (c18 : PySem.W.codeIn K cd18 "_law_book" = true) (k18 : PySem.W.keepIn K (.ref f18) = true)
    (a19 : PySem.W.nsIn K mainGlobals "_law_run" = some (some (.ref f19))) (l19 : K.lookup f19 = some ⟨oc19, od19, .func (PySem.W.fnOf "_law_run" "_law_run" (defArgs s_law_run) (defBody s_law_run) (defScope s_law_run) .none kV19 dc19 pm19 an19 cd19 ct19), sl19⟩) (c19 : PySem.W.codeIn K cd19 "_law_run" = true) (k19 : PySem.W.keepIn K (.ref f19) = true)
    (a20 : PySem.W.nsIn K mainGlobals "_law_bad_book" = some (some (.ref f20))) (l20 : K.lookup f20 = some ⟨oc20, od20, .func (PySem.W.fnOf "_law_bad_book" "_law_bad_book" (defArgs s_law_bad_book) (defBody s_law_bad_book) (defScope s_law_bad_book) .none kV20 dc20 pm20 an20 cd20 ct20), sl20⟩) (c20 : PySem.W.codeIn K cd20 "_law_bad_book" = true) (k20 : PySem.W.keepIn K (.ref f20) = true)
    (a21 : PySem.W.nsIn K mainGlobals "_law_nested" = some (some (.ref f21))) (l21 : K.lookup f21 = some ⟨oc21, od21, .func (PySem.W.fnOf "_law_nested" "_law_nested" (defArgs s_law_nested) (defBody s_law_nested) (defScope s_law_nested) .none kV21 dc21 pm21 an21 cd21 ct21), sl21⟩) (c21 : PySem.W.codeIn K cd21 "_law_nested" = true) (k21 : PySem.W.keepIn K (.ref f21) = true)
    (a22 : PySem.W.nsIn K mainGlobals "law" = some (some (.ref f22))) (l22 : K.lookup f22 = some ⟨oc22, od22, .func (PySem.W.fnOf "law" "law" (defArgs s_law) (defBody s_law) (defScope s_law) .none kV22 dc22 pm22 an22 cd22 ct22), sl22⟩) (c22 : PySem.W.codeIn K cd22 "law" = true) (k22 : PySem.W.keepIn K (.ref f22) = true)
    (z_isinstance : PySem.W.nsIn K mainGlobals "isinstance" = some none)
    (z_int : PySem.W.nsIn K mainGlobals "int" = some none)
    (z_bool : PySem.W.nsIn K mainGlobals "bool" = some none)
    (z_str : PySem.W.nsIn K mainGlobals "str" = some none)
    (z_tuple : PySem.W.nsIn K mainGlobals "tuple" = some none)
    (z_list : PySem.W.nsIn K mainGlobals "list" = some none)
    (z_dict : PySem.W.nsIn K mainGlobals "dict" = some none)
    (z_len : PySem.W.nsIn K mainGlobals "len" = some none)
    (z_all : PySem.W.nsIn K mainGlobals "all" = some none)
    (z_range : PySem.W.nsIn K mainGlobals "range" = some none)
    (z_abs : PySem.W.nsIn K mainGlobals "abs" = some none)
    (z_min : PySem.W.nsIn K mainGlobals "min" = some none)
    (z_set : PySem.W.nsIn K mainGlobals "set" = some none)
    (v_SMALL : PySem.W.nsIn K mainGlobals "SMALL" = some (some (.str "abcdefghijklmnopqrstuvwxyz" t_SMALL)))
    (v_DIGITS : PySem.W.nsIn K mainGlobals "DIGITS" = some (some (.str "0123456789" t_DIGITS)))
    (v_RESERVED : PySem.W.nsIn K mainGlobals "RESERVED" = some (some (.ref g_RESERVED))) (w_RESERVED : K.lookup g_RESERVED = some ⟨.type "tuple", h_RESERVED, .seq #[.str "kinds" tRESERVED0, .str "nothing" tRESERVED1, .str "endless" tRESERVED2, .str "x" tRESERVED3] i_RESERVED, j_RESERVED⟩)
    (v_MAX_KINDS : PySem.W.nsIn K mainGlobals "MAX_KINDS" = some (some (.int 6 t_MAX_KINDS)))
    (v_MAX_MOVES : PySem.W.nsIn K mainGlobals "MAX_MOVES" = some (some (.int 8 t_MAX_MOVES)))
    (v_MAX_ENTRY : PySem.W.nsIn K mainGlobals "MAX_ENTRY" = some (some (.int 1000 t_MAX_ENTRY)))
    (v_MAX_NESTED : PySem.W.nsIn K mainGlobals "MAX_NESTED" = some (some (.int 30 t_MAX_NESTED))) : Wd K mg := {
    a_is_number := f0, d_is_number := _, D_is_number := ⟨fun_mk (st := s_is_number) l0 c0 k0, (fun_mk (st := s_is_number) l0 c0 k0).binds (ps := ["value", "least", "most"]) (fun _ _ _ _ _ _ us hl => match us, hl with | [_, _, _], _ => rfl), PySem.W.mg_of X G a0⟩,
    a_is_name := f1, d_is_name := _, D_is_name := ⟨fun_mk (st := s_is_name) l1 c1 k1, (fun_mk (st := s_is_name) l1 c1 k1).binds (ps := ["value"]) (fun _ _ _ _ _ _ us hl => match us, hl with | [_], _ => rfl), PySem.W.mg_of X G a1⟩,
    a_is_entries := f2, d_is_entries := _, D_is_entries := ⟨fun_mk (st := s_is_entries) l2 c2 k2, (fun_mk (st := s_is_entries) l2 c2 k2).binds (ps := ["value", "count", "least", "most"]) (fun _ _ _ _ _ _ us hl => match us, hl with | [_, _, _, _], _ => rfl), PySem.W.mg_of X G a2⟩,
    a_is_move := f3, d_is_move := _, D_is_move := ⟨fun_mk (st := s_is_move) l3 c3 k3, (fun_mk (st := s_is_move) l3 c3 k3).binds (ps := ["count", "value"]) (fun _ _ _ _ _ _ us hl => match us, hl with | [_, _], _ => rfl), PySem.W.mg_of X G a3⟩,
    a_is_book := f4, d_is_book := _, D_is_book := ⟨fun_mk (st := s_is_book) l4 c4 k4, (fun_mk (st := s_is_book) l4 c4 k4).binds (ps := ["value"]) (fun _ _ _ _ _ _ us hl => match us, hl with | [_], _ => rfl), PySem.W.mg_of X G a4⟩,
    a_is_stock := f5, d_is_stock := _, D_is_stock := ⟨fun_mk (st := s_is_stock) l5 c5 k5, (fun_mk (st := s_is_stock) l5 c5 k5).binds (ps := ["book", "value"]) (fun _ _ _ _ _ _ us hl => match us, hl with | [_, _], _ => rfl), PySem.W.mg_of X G a5⟩,
    a_is_extended := f6, d_is_extended := _, D_is_extended := ⟨fun_mk (st := s_is_extended) l6 c6 k6, (fun_mk (st := s_is_extended) l6 c6 k6).binds (ps := ["book", "value"]) (fun _ _ _ _ _ _ us hl => match us, hl with | [_, _], _ => rfl), PySem.W.mg_of X G a6⟩,
    a_is_step := f7, d_is_step := _, D_is_step := ⟨fun_mk (st := s_is_step) l7 c7 k7, (fun_mk (st := s_is_step) l7 c7 k7).binds (ps := ["book", "value", "nested"]) (fun _ _ _ _ _ _ us hl => match us, hl with | [_, _, _], _ => rfl), PySem.W.mg_of X G a7⟩,
    a_are_steps := f8, d_are_steps := _, D_are_steps := ⟨fun_mk (st := s_are_steps) l8 c8 k8, (fun_mk (st := s_are_steps) l8 c8 k8).binds (ps := ["book", "value", "nested"]) (fun _ _ _ _ _ _ us hl => match us, hl with | [_, _, _], _ => rfl), PySem.W.mg_of X G a8⟩,
    a_is_run := f9, d_is_run := _, D_is_run := ⟨fun_mk (st := s_is_run) l9 c9 k9, (fun_mk (st := s_is_run) l9 c9 k9).binds (ps := ["book", "value"]) (fun _ _ _ _ _ _ us hl => match us, hl with | [_, _], _ => rfl), PySem.W.mg_of X G a9⟩,
    a_move_index := f10, d_move_index := _, D_move_index := ⟨fun_mk (st := s_move_index) l10 c10 k10, (fun_mk (st := s_move_index) l10 c10 k10).binds (ps := ["book", "name"]) (fun _ _ _ _ _ _ us hl => match us, hl with | [_, _], _ => rfl), PySem.W.mg_of X G a10⟩,
    a__law_same := f11, d__law_same := _, D__law_same := ⟨fun_mk (st := s_law_same) l11 c11 k11, (fun_mk (st := s_law_same) l11 c11 k11).binds (ps := ["a", "b"]) (fun _ _ _ _ _ _ us hl => match us, hl with | [_, _], _ => rfl), PySem.W.mg_of X G a11⟩,
    a__law_mix := f12, d__law_mix := _, D__law_mix := ⟨fun_mk (st := s_law_mix) l12 c12 k12, (fun_mk (st := s_law_mix) l12 c12 k12).binds (ps := ["first", "second"]) (fun _ _ _ _ _ _ us hl => match us, hl with | [_, _], _ => rfl), PySem.W.mg_of X G a12⟩,
    a__law_numbers := f13, d__law_numbers := _, D__law_numbers := ⟨fun_mk (st := s_law_numbers) l13 c13 k13, (fun_mk (st := s_law_numbers) l13 c13 k13).binds (ps := ["script", "count"]) (fun _ _ _ _ _ _ us hl => match us, hl with | [_, _], _ => rfl), PySem.W.mg_of X G a13⟩,
    a__law_draws := f14, d__law_draws := _, D__law_draws := ⟨fun_mk (st := s_law_draws) l14 c14 k14, (fun_mk (st := s_law_draws) l14 c14 k14).binds (ps := ["script", "count"]) (fun _ _ _ _ _ _ us hl => match us, hl with | [_, _], _ => rfl), PySem.W.mg_of X G a14⟩,
    a__law_take := f15, d__law_take := _, D__law_take := ⟨fun_mk (st := s_law_take) l15 c15 k15, (fun_mk (st := s_law_take) l15 c15 k15).binds (ps := ["draws", "bound"]) (fun _ _ _ _ _ _ us hl => match us, hl with | [_, _], _ => rfl), PySem.W.mg_of X G a15⟩,
    a__law_named := f16, d__law_named := _, D__law_named := ⟨fun_mk (st := s_law_named) l16 c16 k16, (fun_mk (st := s_law_named) l16 c16 k16).binds (ps := ["draws"]) (fun _ _ _ _ _ _ us hl => match us, hl with | [_], _ => rfl), PySem.W.mg_of X G a16⟩,
    a__law_stock := f17, d__law_stock := _, D__law_stock := ⟨fun_mk (st := s_law_stock) l17 c17 k17, (fun_mk (st := s_law_stock) l17 c17 k17).binds (ps := ["draws", "n", "most"]) (fun _ _ _ _ _ _ us hl => match us, hl with | [_, _, _], _ => rfl), PySem.W.mg_of X G a17⟩,
    a__law_book := f18, d__law_book := _, D__law_book := ⟨fun_mk (st := s_law_book) l18 c18 k18, (fun_mk (st := s_law_book) l18 c18 k18).binds (ps := ["draws", "most"]) (fun _ _ _ _ _ _ us hl => match us, hl with | [_, _], _ => rfl), PySem.W.mg_of X G a18⟩,
    a__law_run := f19, d__law_run := _, D__law_run := ⟨fun_mk (st := s_law_run) l19 c19 k19, (fun_mk (st := s_law_run) l19 c19 k19).binds (ps := ["draws", "moves", "depth", "times"]) (fun _ _ _ _ _ _ us hl => match us, hl with | [_, _, _, _], _ => rfl), PySem.W.mg_of X G a19⟩,
    a__law_bad_book := f20, d__law_bad_book := _, D__law_bad_book := ⟨fun_mk (st := s_law_bad_book) l20 c20 k20, (fun_mk (st := s_law_bad_book) l20 c20 k20).binds (ps := ["draws", "book"]) (fun _ _ _ _ _ _ us hl => match us, hl with | [_, _], _ => rfl), PySem.W.mg_of X G a20⟩,
    a__law_nested := f21, d__law_nested := _, D__law_nested := ⟨fun_mk (st := s_law_nested) l21 c21 k21, (fun_mk (st := s_law_nested) l21 c21 k21).binds (ps := ["run", "depth"]) (fun _ _ _ _ _ _ us hl => match us, hl with | [_, _], _ => rfl), PySem.W.mg_of X G a21⟩,
    a_law := f22, d_law := _, D_law := ⟨fun_mk (st := s_law) l22 c22 k22, (fun_mk (st := s_law) l22 c22 k22).binds (ps := ["script"]) (fun _ _ _ _ _ _ us hl => match us, hl with | [_], _ => rfl), PySem.W.mg_of X G a22⟩,
    B_law := fun s v => .of_eq rfl,
    n_isinstance := PySem.W.mg_none_of X G z_isinstance,
    n_int := PySem.W.mg_none_of X G z_int,
    n_bool := PySem.W.mg_none_of X G z_bool,
    n_str := PySem.W.mg_none_of X G z_str,
    n_tuple := PySem.W.mg_none_of X G z_tuple,
    n_list := PySem.W.mg_none_of X G z_list,
    n_dict := PySem.W.mg_none_of X G z_dict,
    n_len := PySem.W.mg_none_of X G z_len,
    n_all := PySem.W.mg_none_of X G z_all,
    n_range := PySem.W.mg_none_of X G z_range,
    n_abs := PySem.W.mg_none_of X G z_abs,
    n_min := PySem.W.mg_none_of X G z_min,
    n_set := PySem.W.mg_none_of X G z_set,
    u_SMALL := t_SMALL, c_SMALL := PySem.W.mg_of X G v_SMALL,
    u_DIGITS := t_DIGITS, c_DIGITS := PySem.W.mg_of X G v_DIGITS,
    a_RESERVED := g_RESERVED, c_RESERVED := PySem.W.mg_of X G v_RESERVED, t_RESERVED := fun _ => .inr ⟨_, _, _, w_RESERVED, rfl, rfl, by show 4 ≤ sizeLine; decide, .cons ⟨_, rfl⟩ (.cons ⟨_, rfl⟩ (.cons ⟨_, rfl⟩ (.cons ⟨_, rfl⟩ (.nil))))⟩,
    u_MAX_KINDS := t_MAX_KINDS, c_MAX_KINDS := PySem.W.mg_of X G v_MAX_KINDS,
    u_MAX_MOVES := t_MAX_MOVES, c_MAX_MOVES := PySem.W.mg_of X G v_MAX_MOVES,
    u_MAX_ENTRY := t_MAX_ENTRY, c_MAX_ENTRY := PySem.W.mg_of X G v_MAX_ENTRY,
    u_MAX_NESTED := t_MAX_NESTED, c_MAX_NESTED := PySem.W.mg_of X G v_MAX_NESTED }
def sp_law (K : PySem.W.Frag) : Sp := fun vs H Q _ => ∃ (a : Addr) (ns : List Int), vs = [.ref a] ∧ SqL K H a (ns.map V.int) ∧ ns.length ≤ 63 ∧ ∀ H', Q (.bl true) H'
theorem bt_isinstance : bootBuiltins "isinstance" = some (.builtin "isinstance") := by decide +kernel
theorem bt_len : bootBuiltins "len" = some (.builtin "len") := by decide +kernel
theorem bt_all : bootBuiltins "all" = some (.builtin "all") := by decide +kernel
theorem bt_abs : bootBuiltins "abs" = some (.builtin "abs") := by decide +kernel
theorem bt_min : bootBuiltins "min" = some (.builtin "min") := by decide +kernel
theorem bt_int : bootBuiltins "int" = some (.type "int") := by decide +kernel
theorem bt_bool : bootBuiltins "bool" = some (.type "bool") := by decide +kernel
theorem bt_str : bootBuiltins "str" = some (.type "str") := by decide +kernel
theorem bt_tuple : bootBuiltins "tuple" = some (.type "tuple") := by decide +kernel
theorem bt_list : bootBuiltins "list" = some (.type "list") := by decide +kernel
theorem bt_dict : bootBuiltins "dict" = some (.type "dict") := by decide +kernel
end Mt

namespace Mt
open PySem PySem.Spec PyProof.Rows L2
/-! is_number, is_entries, is_stock, is_extended -/
def hiOk : Option Int → Int → Bool
  | none, _ => true
  | some h, i => decide (i ≤ h)
def isNum (d : PyData) (lo : Int) (hi : Option Int) : Bool := match d with
  | .int i => decide (lo ≤ i) && hiOk hi i
  | _ => false
def isEnt (d : PyData) (n lo : Int) (hi : Option Int) : Bool := match d with
  | .tuple ds => decide ((ds.length : Int) = n) && ds.all fun e => isNum e lo hi
  | _ => false
/-- the bound above, as a value -/
def hiV : Option Int → V
  | none => .non
  | some h => .int h
/-- a tuple's length fits -/
theorem SqT.size {X : Cx} {pins : List (Addr × Obj)} {σ : L2.St} {H : Hp} {s : Shared} {a : Addr} {xs : List V} (I : Inv X pins σ H s) (h : SqT X.K H a xs) : xs.length ≤ sizeLine := by
  obtain ⟨_, _, _, z⟩ := I.tuple h
  exact z
def sp_is_number (K : PySem.W.Frag) : Sp := fun vs H Q _ => ∃ (v : V) (d : PyData) (lo : Int) (hi : Option Int), vs = [v, .int lo, hiV hi] ∧ Im K H v d ∧ Q (.bl (isNum d lo hi)) H
def sp_is_entries (K : PySem.W.Frag) : Sp := fun vs H Q _ => ∃ (v : V) (d : PyData) (n lo : Int) (hi : Option Int), vs = [v, .int n, .int lo, hiV hi] ∧ Im K H v d ∧ ∀ H', Fm M0 H H' → Q (.bl (isEnt d n lo hi)) H'
section
variable {P : Program} {w : World} {K : PySem.W.Frag} {mg : Str → Option Value} {base : Heap}
theorem ok_is_number (W : Wd K mg) : FnOk P w K mg base CX0 1 W.a_is_number W.d_is_number ["value", "least", "most"] (sp_is_number K) := by
  have nd := sc_is_number.nd
  refine W.D_is_number.F.ok sc_is_number (fun vs H Q E h => ?_) (fun cdv A outer s H vs Q E hr h => ?_)
  · obtain ⟨v, d, lo, hi, rfl, _⟩ := h
    rfl
  obtain ⟨v, d, lo, hi, rfl, im, q⟩ := h
  refine ⟨_, (pss_cons (ps_if (PW.pt (pw_or (pt_not (pt_val (pe_callB (call_isD (T := "int") (by decide)) (by rfl) W.n_isinstance bt_isinstance (pa_cons (pv 0) (pa_cons (pe_bltn (v := .ty "int") (by rfl) W.n_int bt_int rfl) pa_nil))))) (pw_or (pt_val (pe_callB (call_isD (T := "bool") (by decide)) (by rfl) W.n_isinstance bt_isinstance (pa_cons (pv 0) (pa_cons (pe_bltn (v := .ty "bool") (by rfl) W.n_bool bt_bool rfl) pa_nil)))) (pw_or1 (pt_cmpR op_lt (pv 0) (pv 1) (nomark _))))))
        (pss_one (ps_ret pe_bl))
        pss_nil)
      (pss_one (ps_ret (pe_or (pe_cmpR op_isN (pv 2) pe_non (nomark _)) (pe_one (pe_cmpR op_le (pv 0) (pv 2) (nomark _))))))), ?_⟩
  refine ⟨_, rfl, _, d, rfl, im, _, rfl, ?_⟩
  cases d with
  | int i =>
    refine iteF ?_
    refine ⟨_, rfl, _, _, rfl, im, _, rfl, ?_⟩
    refine iteF ?_
    cases im
    refine ⟨_, rfl, _, rfl, _, _, rfl, rfl, _, rfl, ite2 (fun c => ?_) (fun c => ?_)⟩
    · have c := of_decide_eq_true c
      have e : isNum (.int i) lo hi = false := by simp only [isNum]; rw [decide_eq_false (by omega)]; rfl
      rw [e] at q
      exact q
    · have c : ¬ i < lo := fun z => c (decide_eq_true z)
      have e : isNum (.int i) lo hi = hiOk hi i := by simp only [isNum]; rw [decide_eq_true (by omega), Bool.true_and]
      rw [e] at q
      cases hi with
      | none => exact ⟨_, rfl, rfl, _, rfl, iteT q⟩
      | some h => exact ⟨_, rfl, rfl, _, rfl, iteF ⟨_, rfl, _, rfl, _, _, rfl, rfl, q⟩⟩
  | bool b =>
    refine iteF ⟨_, rfl, _, _, rfl, im, _, rfl, ?_⟩
    exact q
  | none => exact q
  | str x => exact q
  | tuple ds => exact q
  | list ds => exact q
  | dict ds => exact q
theorem ok_is_entries (W : Wd K mg) : FnOk P w K mg base CX0 2 W.a_is_entries W.d_is_entries ["value", "count", "least", "most"] (sp_is_entries K) := by
  have nd := sc_is_entries.nd
  refine W.D_is_entries.F.ok sc_is_entries (fun vs H Q E h => ?_) (fun cdv A outer s H vs Q E hr h => ?_)
  · obtain ⟨v, d, n, lo, hi, rfl, _⟩ := h
    rfl
  obtain ⟨v, d, n, lo, hi, rfl, im, q⟩ := h
  refine ⟨_, (pss_cons (ps_if (PW.pt (pw_or (pt_not (pt_val (pe_callB (call_isD (T := "tuple") (by decide)) (by rfl) W.n_isinstance bt_isinstance (pa_cons (pv 0) (pa_cons (pe_bltn (v := .ty "tuple") (by rfl) W.n_tuple bt_tuple rfl) pa_nil))))) (pw_or1 (pt_cmpR op_ne (pe_callB call_len (by rfl) W.n_len bt_len (pa_cons (pv 0) pa_nil)) (pv 1) (nomark _)))))
        (pss_one (ps_ret pe_bl))
        pss_nil)
      (pss_one (ps_ret (pe_callB (cr_all rfl) (by rfl) W.n_all bt_all (pa_cons (pe_lc (own := [("entry", 4)]) rfl nd (pi_tup (pv 0)) (blkOk_by (N := N_is_entries) (sc := defScope s_is_entries) (own := [("entry", 4)]) (by decide +kernel)) (fun _ _ _ _ _ => (pg_name (i := 4) nd rfl (Or.inl rfl))) (fun _ _ _ _ _ => pts_nil) (fun _ _ _ _ _ => (pe_call (ok_is_number W) (hr.mono (by decide)) (by rfl) W.D_is_number.m W.D_is_number.F.kp W.D_is_number.b .nil pass0 (pa_cons (pv 4) (pa_cons (pv 2) (pa_cons (pv 3) pa_nil)))))) pa_nil))))), ?_⟩
  refine ⟨_, rfl, _, d, rfl, im, _, rfl, ?_⟩
  cases im with
  | @tup a xs ds hS hz ha =>
    refine iteF ?_
    refine ⟨_, rfl, _, _, rfl, .inr ⟨_, hS, rfl⟩, _, rfl, rfl, _, rfl, ite2 (fun c => ?_) (fun c => ?_)⟩
    · have e : isEnt (.tuple ds) n lo hi = false := by
        simp only [isEnt]
        rw [← ha.len, decide_eq_false, Bool.false_and]
        intro z
        rw [z] at c
        simp at c
      rw [e] at q
      exact q H (Fm.refl H)
    · have c : ((ds.length : Nat) : Int) = n := by
        rw [← ha.len]
        simpa using c
      have e : isEnt (.tuple ds) n lo hi = ds.all fun e => isNum e lo hi := by
        simp only [isEnt]
        rw [decide_eq_true c, Bool.true_and]
      rw [e] at q
      refine ⟨_, rfl, a, rfl, ⟨_, hS⟩, fun D nD => all_tup hS ha (small1000 hz) nD (fun z => z) (fun e => isNum e lo hi) ?_ fun H4 bs f4 eD eb => ⟨D, bs, rfl, eD, by rw [eb]; exact q H4 f4⟩⟩
      intro i x d H' k hd him hf hk
      exact ⟨rfl, x, rfl, _, rfl, _, rfl, x, d, lo, hi, rfl, him, hk H' (Fm.refl _)⟩
  | non => exact q H (Fm.refl H)
  | bl b => exact q H (Fm.refl H)
  | int i => exact q H (Fm.refl H)
  | str _ _ => exact q H (Fm.refl H)
end

end Mt

namespace Mt
open PySem PySem.Spec PyProof.Rows L2
/-! is_name -/
def smallS : Str := "abcdefghijklmnopqrstuvwxyz"
def digitS : Str := "0123456789"
def resV : List V := [.str "kinds", .str "nothing", .str "endless", .str "x"]
def sgn (c : Nat) : Bool := decide (c ∈ smallS.cps.toList) || decide (c ∈ digitS.cps.toList)
def isNameS (x : Str) : Bool :=
  decide (1 ≤ x.length) && decide (x.length ≤ 12) && !inV (.str x) resV && (match x.cps.toList with | [] => false | c :: _ => decide (c ∈ smallS.cps.toList)) && x.cps.toList.all sgn
def isName : PyData → Bool
  | .str x => isNameS x
  | _ => false
def sp_is_name (K : PySem.W.Frag) : Sp := fun vs H Q _ => ∃ (v : V) (d : PyData), vs = [v] ∧ Im K H v d ∧ ∀ H', Fm M0 H H' → Q (.bl (isName d)) H'
section
variable {P : Program} {w : World} {K : PySem.W.Frag} {mg : Str → Option Value} {base : Heap}
theorem ok_is_name (W : Wd K mg) : FnOk P w K mg base CX0 1 W.a_is_name W.d_is_name ["value"] (sp_is_name K) := by
  have nd := sc_is_name.nd
  refine W.D_is_name.F.ok sc_is_name (fun vs H Q E h => ?_) (fun cdv A outer s H vs Q E hr h => ?_)
  · obtain ⟨v, d, rfl, _⟩ := h
    rfl
  obtain ⟨v, d, rfl, im, q⟩ := h
  refine ⟨_, (pss_cons (ps_if (PW.pt (pw_or (pt_not (pt_val (pe_callB (call_isD (T := "str") (by decide)) (by rfl) W.n_isinstance bt_isinstance (pa_cons (pv 0) (pa_cons (pe_bltn (v := .ty "str") (by rfl) W.n_str bt_str rfl) pa_nil))))) (pw_or (pt_not (pt_chain op_le op_le pe_int (pe_callB call_len (by rfl) W.n_len bt_len (pa_cons (pv 0) pa_nil)) pe_int)) (pw_or1 (pt_cmpR op_in_seq (pv 0) (pe_glob (v := .ref W.a_RESERVED) rfl W.c_RESERVED rfl) rfl)))))
        (pss_one (ps_ret pe_bl))
        pss_nil)
      (pss_one (ps_ret (pe_and (pe_cmpR op_in_sign (pe_ix ix_str (pv 0) pe_int (fun _ _ => rfl)) (pe_glob (v := .str "abcdefghijklmnopqrstuvwxyz") rfl W.c_SMALL ⟨_, rfl⟩) rfl) (pe_one (pe_callB (cr_all rfl) (by rfl) W.n_all bt_all (pa_cons (pe_lc (own := [("char", 1)]) rfl nd (pi_str (pv 0)) (blkOk_by (N := N_is_name) (sc := defScope s_is_name) (own := [("char", 1)]) (by decide +kernel)) (fun _ _ _ _ _ => (pg_name (i := 1) nd rfl (Or.inl rfl))) (fun _ _ _ _ _ => pts_nil) (fun _ _ _ _ _ => (pe_or (pe_cmpR op_in_sign (pv 1) (pe_glob (v := .str "abcdefghijklmnopqrstuvwxyz") rfl W.c_SMALL ⟨_, rfl⟩) rfl) (pe_one (pe_cmpR op_in_sign (pv 1) (pe_glob (v := .str "0123456789") rfl W.c_DIGITS ⟨_, rfl⟩) rfl))))) pa_nil))))))), ?_⟩
  refine ⟨_, rfl, _, d, rfl, im, _, rfl, ?_⟩
  cases im with
  | @str x hz ho =>
    refine iteF ?_
    have hx : x.length ≤ sizeLine := Nat.le_trans hz (by decide)
    have hn : x.cps.toList.length = x.length := by simp [Str.length]
    have done : isNameS x = false → Q (.bl false) H := fun e => by
      have := q H (Fm.refl H)
      simp only [isName, e] at this
      exact this
    -- not 1 <= len(value) <= 12
    refine ⟨_, rfl, _, _, rfl, ⟨hx, rfl⟩, _, _, rfl, rfl, _, rfl, ite2 (fun c1 => ?_) (fun c1 => ?_)⟩
    rotate_left
    · refine ⟨_, rfl, ?_⟩
      have c1 : ¬ 1 ≤ x.length := fun z => c1 (decide_eq_true (by omega))
      exact done (by unfold isNameS; rw [decide_eq_false c1]; rfl)
    have c1 : 1 ≤ x.length := by have := of_decide_eq_true c1; omega
    refine ⟨_, _, rfl, rfl, _, rfl, ?_⟩
    by_cases c2 : x.length ≤ 12
    rotate_left
    · have : decide ((x.length : Int) ≤ 12) = false := decide_eq_false (by omega)
      rw [this]
      refine iteT ?_
      exact done (by unfold isNameS; rw [decide_eq_false c2]; simp)
    have : decide ((x.length : Int) ≤ 12) = true := decide_eq_true (by omega)
    rw [this]
    refine iteF ?_
    -- value in RESERVED
    refine ⟨_, rfl, W.a_RESERVED, resV, rfl, .inr (W.t_RESERVED H), rfl, rfl, _, rfl, ite2 (fun c3 => ?_) (fun c3 => ?_)⟩
    · have c3 : inV (.str x) resV = true := c3
      exact done (by unfold isNameS; rw [c3]; simp)
    have c3 : inV (.str x) resV = false := Bool.eq_false_iff.mpr c3
    -- value[0] in SMALL and all(..)
    obtain ⟨c, r, ec⟩ : ∃ c r, x.cps.toList = c :: r := by
      cases e : x.cps.toList with
      | nil => rw [e] at hn; simp at hn; omega
      | cons c r => exact ⟨c, r, rfl⟩
    have e0 : isNameS x = (decide (c ∈ smallS.cps.toList) && x.cps.toList.all sgn) := by
      unfold isNameS
      rw [c3, decide_eq_true c1, decide_eq_true c2, ec]
      simp
    refine ⟨_, rfl, x, 0, c, rfl, rfl, hx, by rw [ec]; exact atI_nat (j := 0) rfl, c, smallS, rfl, rfl, _, rfl, ite2 (fun c4 => ?_) (fun c4 => ?_)⟩
    rotate_left
    · exact done (by rw [e0, Bool.eq_false_iff.mpr c4]; rfl)
    rw [c4, Bool.true_and] at e0
    refine ⟨_, rfl, x, rfl, fun D nD => all_fm (K := K) (M := M0) (walk_str (z := x)) (fun _ _ => trivial) (fun i H x H' y => by rw [y.1]; exact Fm.refl H) (Nat.lt_of_le_of_lt hz (by decide)) nD (fun z => z) (fun i => match x.cps.toList[i]? with | some c => sgn c | none => true) ?_ ?_⟩
    · rintro i y H1 H2 k hi hf ⟨rfl, c, hc, rfl⟩ hk
      refine ⟨rfl, _, rfl, c, smallS, rfl, rfl, _, rfl, ite2 (fun c5 => ?_) (fun c5 => ?_)⟩
      · have := hk _ (Fm.refl _)
        rw [Array.getElem?_toList, hc] at this
        simp only [sgn, c5, Bool.true_or] at this
        exact this
      · refine ⟨_, rfl, c, digitS, rfl, rfl, ?_⟩
        have := hk _ (Fm.refl _)
        rw [Array.getElem?_toList, hc] at this
        have c5 : decide (c ∈ smallS.cps.toList) = false := Bool.eq_false_iff.mpr c5
        simp only [sgn, c5, Bool.false_or] at this
        exact this
    · intro H4 bs f4 eD eb
      refine ⟨D, bs, rfl, eD, ?_⟩
      rw [eb]
      have := q H4 f4
      simp only [isName, e0] at this
      have e : (List.range x.cps.size).all (fun i => match x.cps.toList[i]? with | some c => sgn c | none => true) = x.cps.toList.all sgn := by
        rw [Bool.eq_iff_iff, List.all_eq_true, List.all_eq_true]
        constructor
        · intro h d hd
          obtain ⟨i, hi⟩ := List.mem_iff_getElem?.mp hd
          have := h i (List.mem_range.mpr (by have := (List.getElem?_eq_some_iff.mp hi).1; simpa using this))
          rw [hi] at this
          exact this
        · intro h i hi
          cases e : x.cps.toList[i]? with
          | none => rfl
          | some d => exact h d (List.mem_iff_getElem?.mpr ⟨i, e⟩)
      rw [e]
      exact this
  | non => exact q H (Fm.refl H)
  | bl b => exact q H (Fm.refl H)
  | int i => exact q H (Fm.refl H)
  | tup _ _ _ => exact q H (Fm.refl H)
end

end Mt

namespace Mt
open PySem PySem.Spec PyProof.Rows L2
/-! is_stock, is_extended, move_index -/
/-- a proper book -/
structure Mv where
  name : Str
  take : List Int
  least : List Int
  most : List Int
structure Bk where
  kinds : List Str
  moves : List Mv
def stD (s : List Int) : PyData := .tuple (s.map .int)
def mvD (m : Mv) : PyData := .tuple [.str m.name, stD m.take, stD m.least, stD m.most]
def bkD (b : Bk) : PyData := .tuple [.tuple (b.kinds.map .str), .tuple (b.moves.map mvD)]
theorem ImA.one {K : PySem.W.Frag} {H : Hp} {xs : List V} {a : PyData} (h : ImA K H xs [a]) : ∃ x, xs = [x] ∧ Im K H x a := by
  cases h with
  | cons h1 h2 => cases h2; exact ⟨_, rfl, h1⟩
theorem ImA.two {K : PySem.W.Frag} {H : Hp} {xs : List V} {a b : PyData} (h : ImA K H xs [a, b]) : ∃ x y, xs = [x, y] ∧ Im K H x a ∧ Im K H y b := by
  cases h with
  | cons h1 h2 => cases h2 with
    | cons h2 h3 => cases h3; exact ⟨_, _, rfl, h1, h2⟩
theorem ImA.four {K : PySem.W.Frag} {H : Hp} {xs : List V} {a b c d : PyData} (h : ImA K H xs [a, b, c, d]) : ∃ x y z u, xs = [x, y, z, u] ∧ Im K H x a ∧ Im K H y b ∧ Im K H z c ∧ Im K H u d := by
  cases h with
  | cons h1 h2 => cases h2 with
    | cons h2 h3 => cases h3 with
      | cons h3 h4 => cases h4 with
        | cons h4 h5 => cases h5; exact ⟨_, _, _, _, rfl, h1, h2, h3, h4⟩
theorem Im.tupI {K : PySem.W.Frag} {H : Hp} {v : V} {ds : List PyData} (h : Im K H v (.tuple ds)) : ∃ a xs, v = .ref a ∧ SqT K H a xs ∧ xs.length ≤ 1000 ∧ ImA K H xs ds := by
  cases h with
  | tup h z hs => exact ⟨_, _, rfl, h, z, hs⟩
theorem Im.strI {K : PySem.W.Frag} {H : Hp} {v : V} {x : Str} (h : Im K H v (.str x)) : v = .str x ∧ x.length ≤ 1000 := by
  cases h with
  | str h _ => exact ⟨rfl, h⟩
theorem Im.intI {K : PySem.W.Frag} {H : Hp} {v : V} {x : Int} (h : Im K H v (.int x)) : v = .int x := by
  cases h; rfl
/-- a book's two parts -/
theorem bk_parts {K : PySem.W.Frag} {H : Hp} {v : V} {b : Bk} (h : Im K H v (bkD b)) : ∃ a p q ks ms, v = .ref a ∧ SqT K H a [.ref p, .ref q] ∧ SqT K H p ks ∧ ImA K H ks (b.kinds.map .str) ∧ SqT K H q ms ∧ ImA K H ms (b.moves.map mvD) ∧ ks.length ≤ 1000 ∧ ms.length ≤ 1000 := by
  obtain ⟨a, xs, rfl, ha, _, him⟩ := Im.tupI h
  obtain ⟨x, y, rfl, h1, h2⟩ := him.two
  obtain ⟨p, ks, rfl, hp, zp, hk⟩ := Im.tupI h1
  obtain ⟨q, ms, rfl, hq, zq, hm⟩ := Im.tupI h2
  exact ⟨a, p, q, ks, ms, rfl, ha, hp, hk, hq, hm, zp, zq⟩
def sp_is_stock (K : PySem.W.Frag) : Sp := fun vs H Q _ => ∃ (b v : V) (bk : Bk) (d : PyData), vs = [b, v] ∧ Im K H b (bkD bk) ∧ Im K H v d ∧ ∀ H', Fm M0 H H' → Q (.bl (isEnt d bk.kinds.length 0 none)) H'
def sp_is_extended (K : PySem.W.Frag) : Sp := fun vs H Q _ => ∃ (b v : V) (bk : Bk) (d : PyData), vs = [b, v] ∧ Im K H b (bkD bk) ∧ Im K H v d ∧ ∀ H', Fm M0 H H' → Q (.bl (isEnt d bk.kinds.length (-1) none)) H'
/-- the index of a move, as a value -/
def ixV : Option Nat → V
  | none => .non
  | some i => .int (i : Nat)
def sp_move_index (K : PySem.W.Frag) : Sp := fun vs H Q _ => ∃ (b : V) (y : Str) (bk : Bk), vs = [b, .str y] ∧ Im K H b (bkD bk) ∧ Q (ixV (bk.moves.findIdx? fun m => decide (m.name = y))) H
section
variable {P : Program} {w : World} {K : PySem.W.Frag} {mg : Str → Option Value} {base : Heap}
theorem ok_is_stock (W : Wd K mg) : FnOk P w K mg base CX0 3 W.a_is_stock W.d_is_stock ["book", "value"] (sp_is_stock K) := by
  have nd := sc_is_stock.nd
  refine W.D_is_stock.F.ok sc_is_stock (fun vs H Q E h => ?_) (fun cdv A outer s H vs Q E hr h => ?_)
  · obtain ⟨b, v, bk, d, rfl, _⟩ := h
    rfl
  obtain ⟨b, v, bk, d, rfl, hb, hd, q⟩ := h
  refine ⟨_, (pss_one (ps_ret (pe_call (ok_is_entries W) (hr.mono (by decide)) (by rfl) W.D_is_entries.m W.D_is_entries.F.kp W.D_is_entries.b .nil pass0 (pa_cons (pv 1) (pa_cons (pe_callB call_len (by rfl) W.n_len bt_len (pa_cons (pe_ix ix_tup (pv 0) pe_int (fun _ _ => rfl)) pa_nil)) (pa_cons pe_int (pa_cons pe_non pa_nil))))))), ?_⟩
  obtain ⟨a, p, r, ks, ms, rfl, ha, hp, hk, _⟩ := bk_parts hb
  have hl : ((ks.length : Nat) : Int) = ((bk.kinds.length : Nat) : Int) := by rw [hk.len, List.length_map]
  refine ⟨_, rfl, _, rfl, a, _, 0, _, rfl, rfl, ha, atI_nat (j := 0) rfl, .ref p, _, rfl, .inr ⟨_, hp, rfl⟩, v, d, _, 0, none, rfl, hd, ?_⟩
  rw [hl]
  exact q
theorem ok_is_extended (W : Wd K mg) : FnOk P w K mg base CX0 3 W.a_is_extended W.d_is_extended ["book", "value"] (sp_is_extended K) := by
  have nd := sc_is_extended.nd
  refine W.D_is_extended.F.ok sc_is_extended (fun vs H Q E h => ?_) (fun cdv A outer s H vs Q E hr h => ?_)
  · obtain ⟨b, v, bk, d, rfl, _⟩ := h
    rfl
  obtain ⟨b, v, bk, d, rfl, hb, hd, q⟩ := h
  refine ⟨_, (pss_one (ps_ret (pe_call (ok_is_entries W) (hr.mono (by decide)) (by rfl) W.D_is_entries.m W.D_is_entries.F.kp W.D_is_entries.b .nil pass0 (pa_cons (pv 1) (pa_cons (pe_callB call_len (by rfl) W.n_len bt_len (pa_cons (pe_ix ix_tup (pv 0) pe_int (fun _ _ => rfl)) pa_nil)) (pa_cons (pe_un un_neg pe_int) (pa_cons pe_non pa_nil))))))), ?_⟩
  obtain ⟨a, p, r, ks, ms, rfl, ha, hp, hk, _⟩ := bk_parts hb
  have hl : ((ks.length : Nat) : Int) = ((bk.kinds.length : Nat) : Int) := by rw [hk.len, List.length_map]
  refine ⟨_, rfl, _, rfl, a, _, 0, _, rfl, rfl, ha, atI_nat (j := 0) rfl, .ref p, _, rfl, .inr ⟨_, hp, rfl⟩, 1, rfl, v, d, _, -1, none, rfl, hd, ?_⟩
  rw [hl]
  exact q
theorem ok_move_index (W : Wd K mg) : FnOk P w K mg base CX0 1 W.a_move_index W.d_move_index ["book", "name"] (sp_move_index K) := by
  have nd := sc_move_index.nd
  refine W.D_move_index.F.ok sc_move_index (fun vs H Q E h => ?_) (fun cdv A outer s H vs Q E hr h => ?_)
  · obtain ⟨b, y, bk, rfl, _⟩ := h
    rfl
  obtain ⟨b, y, bk, rfl, hb, q⟩ := h
  refine ⟨_, (pss_cons (ps_for PassesOwn.never rfl (pi_range1 rfl W.n_range (pa_cons (pe_callB call_len (by rfl) W.n_len bt_len (pa_cons (pe_ix ix_tup (pv 0) pe_int (fun _ _ => rfl)) pa_nil)) pa_nil)) (pg_name (i := 2) nd rfl (Or.inl rfl))
        (pss_one (ps_if (pt_cmpR op_eq (pe_ix ix_tup (pe_ix ix_tup (pe_ix ix_tup (pv 0) pe_int (fun _ _ => rfl)) (pv 2) (fun _ _ => rfl)) pe_int (fun _ _ => rfl)) (pv 1) (nomark _))
          (pss_one (ps_ret (pv 2)))
          pss_nil)))
      (pss_one (ps_ret pe_non))), ?_⟩
  obtain ⟨a, p, r, ks, ms, rfl, ha, hp, hk, hr2, hm, _, zm⟩ := bk_parts hb
  have hl : ms.length = bk.moves.length := by rw [hm.len, List.length_map]
  refine ⟨_, rfl, a, _, 1, .ref r, rfl, rfl, ha, atI_nat (j := 1) rfl, .ref r, _, rfl, .inr ⟨_, hr2, rfl⟩, (ms.length : Nat), rfl, by omega, by omega, ?_⟩
  have e1 : ((ms.length : Nat) : Int).toNat = bk.moves.length := by rw [Int.toNat_natCast, hl]
  rw [e1]
  refine for_range (lo := 0) (n := bk.moves.length) (fun i σ H1 => ∃ y2, σ = [some (.ref a), some (.str y), y2] ∧ H1 = H ∧ ∀ j m, j < i → bk.moves[j]? = some m → m.name ≠ y) ⟨none, rfl, rfl, fun j m hj => absurd hj (Nat.not_lt_zero j)⟩ ?_ ?_
  · rintro i σ H1 hi ⟨y2, rfl, rfl, hno⟩
    have hmi : bk.moves[i]? = some bk.moves[i] := List.getElem?_eq_getElem hi
    obtain ⟨x, hx, him⟩ := hm.get' (i := i) (e := mvD bk.moves[i]) (by rw [List.getElem?_map, hmi]; rfl)
    obtain ⟨c, zs, rfl, hc, _, hz⟩ := Im.tupI him
    obtain ⟨z1, z2, z3, z4, rfl, h1, _⟩ := hz.four
    obtain ⟨rfl, _⟩ := h1.strI
    have e2 : (0 : Int) + (i : Nat) = ((i : Nat) : Int) := by omega
    rw [e2]
    refine ⟨_, rfl, a, _, 1, .ref r, rfl, rfl, ha, atI_nat (j := 1) rfl, _, rfl, r, ms, _, _, rfl, rfl, hr2, atI_nat hx, c, _, 0, _, rfl, rfl, hc, atI_nat (j := 0) rfl, _, rfl, rfl, _, rfl, ite2 (fun c1 => ?_) (fun c1 => ?_)⟩
    · have c1 : bk.moves[i].name = y := V.str.inj (of_decide_eq_true c1)
      refine ⟨_, rfl, ?_⟩
      have e3 : (bk.moves.findIdx? fun m => decide (m.name = y)) = some i := by
        rw [List.findIdx?_eq_some_iff_getElem]
        refine ⟨hi, decide_eq_true c1, fun j hj => ?_⟩
        have := hno j _ hj (List.getElem?_eq_getElem (by omega))
        simpa using this
      rw [e3] at q
      exact q
    · refine ⟨some (.int (i : Nat)), rfl, rfl, fun j m hj hjm => ?_⟩
      by_cases hji : j = i
      · subst hji
        rw [hmi] at hjm
        cases hjm
        exact fun z => c1 (decide_eq_true (congrArg V.str z))
      · exact hno j m (by omega) hjm
  · rintro σ H1 ⟨y2, rfl, rfl, hno⟩
    have e3 : (bk.moves.findIdx? fun m => decide (m.name = y)) = none := by
      rw [List.findIdx?_eq_none_iff]
      intro m hm
      obtain ⟨j, hj⟩ := List.mem_iff_getElem?.mp hm
      have := hno j m (List.getElem?_eq_some_iff.mp hj).1 hj
      simpa using this
    rw [e3] at q
    exact q
end

end Mt

namespace Mt
open PySem PySem.Spec PyProof.Rows L2
/-! is_move -/
def leAt (l m : PyData) (k : Nat) : Bool := match l, m with
  | .tuple ls, .tuple ms => (match ls[k]?, ms[k]? with
    | some (.int a), some (.int b) => decide (a ≤ b)
    | _, _ => true)
  | _, _ => true
def isMove (n : Nat) : PyData → Bool
  | .tuple [a, t, l, m] => isName a && (isEnt t n 0 (some 1000) && (isEnt l n 0 (some 1000) && (isEnt m n 0 (some 1000) && true))) && (List.range n).all (leAt l m)
  | _ => false
theorem isEnt_I {d : PyData} {n : Nat} {lo : Int} {hi : Option Int} (h : isEnt d n lo hi = true) : ∃ ns : List Int, d = stD ns ∧ ns.length = n ∧ ∀ i ∈ ns, lo ≤ i ∧ hiOk hi i = true := by
  cases d with
  | tuple ds =>
    simp only [isEnt, Bool.and_eq_true, decide_eq_true_eq, List.all_eq_true] at h
    obtain ⟨h1, h2⟩ := h
    refine ⟨ds.map fun d => match d with | .int i => i | _ => 0, ?_, by simp; omega, ?_⟩
    · unfold stD
      rw [List.map_map]
      congr 1
      have : ds = ds.map id := by simp
      conv => lhs; rw [this]
      apply List.map_congr_left
      intro d hd
      have := h2 d hd
      cases d <;> simp [isNum] at this ⊢
    · intro i hi
      obtain ⟨d, hd, rfl⟩ := List.mem_map.mp hi
      have := h2 d hd
      cases d <;> simp [isNum] at this ⊢
      exact this
  | _ => cases h
def sp_is_move (K : PySem.W.Frag) : Sp := fun vs H Q _ => ∃ (n : Nat) (v : V) (d : PyData), vs = [.int (n : Nat), v] ∧ Im K H v d ∧ n ≤ 1000 ∧ ∀ H', Fm M0 H H' → Q (.bl (isMove n d)) H'
section
variable {P : Program} {w : World} {K : PySem.W.Frag} {mg : Str → Option Value} {base : Heap}
theorem ok_is_move (W : Wd K mg) : FnOk P w K mg base CX0 3 W.a_is_move W.d_is_move ["count", "value"] (sp_is_move K) := by
  have nd := sc_is_move.nd
  refine W.D_is_move.F.ok sc_is_move (fun vs H Q E h => ?_) (fun cdv A outer s H vs Q E hr h => ?_)
  · obtain ⟨n, v, d, rfl, _⟩ := h
    rfl
  obtain ⟨n, v, d, rfl, im, hn, q⟩ := h
  refine ⟨_, (pss_cons (ps_if (PW.pt (pw_or (pt_not (pt_val (pe_callB (call_isD (T := "tuple") (by decide)) (by rfl) W.n_isinstance bt_isinstance (pa_cons (pv 1) (pa_cons (pe_bltn (v := .ty "tuple") (by rfl) W.n_tuple bt_tuple rfl) pa_nil))))) (pw_or (pt_cmpR op_ne (pe_callB call_len (by rfl) W.n_len bt_len (pa_cons (pv 1) pa_nil)) pe_int (nomark _)) (pw_or1 (pt_not (pt_val (pe_call (ok_is_name W) (hr.mono (by decide)) (by rfl) W.D_is_name.m W.D_is_name.F.kp W.D_is_name.b .nil pass0 (pa_cons (pe_ix ix_tup (pv 1) pe_int (fun _ _ => rfl)) pa_nil))))))))
        (pss_one (ps_ret pe_bl))
        pss_nil)
      (pss_cons (ps_if (pt_not (pt_val (pe_callB (cr_all rfl) (by rfl) W.n_all bt_all (pa_cons (pe_lc (own := [("stock", 2)]) rfl nd (pi_tup (pe_slice sl_tupA (pv 1) (po_some pe_int) po_none)) (blkOk_by (N := N_is_move) (sc := defScope s_is_move) (own := [("stock", 2)]) (by decide +kernel)) (fun _ _ _ _ _ => (pg_name (i := 2) nd rfl (Or.inl rfl))) (fun _ _ _ _ _ => pts_nil) (fun _ _ _ _ _ => (pe_call (ok_is_entries W) (hr.mono (by decide)) (by rfl) W.D_is_entries.m W.D_is_entries.F.kp W.D_is_entries.b .nil pass0 (pa_cons (pv 2) (pa_cons (pv 0) (pa_cons pe_int (pa_cons (pe_glob (v := .int 1000) rfl W.c_MAX_ENTRY ⟨_, rfl⟩) pa_nil))))))) pa_nil))))
        (pss_one (ps_ret pe_bl))
        pss_nil)
      (pss_one (ps_ret (pe_callB (cr_all rfl) (by rfl) W.n_all bt_all (pa_cons (pe_lc (own := [("k", 3)]) rfl nd (pi_range1 rfl W.n_range (pa_cons (pv 0) pa_nil)) (blkOk_by (N := N_is_move) (sc := defScope s_is_move) (own := [("k", 3)]) (by decide +kernel)) (fun _ _ _ _ _ => (pg_name (i := 3) nd rfl (Or.inl rfl))) (fun _ _ _ _ _ => pts_nil) (fun _ _ _ _ _ => (pe_cmpR op_le (pe_ix (ixK (K := K) rIxT rfl ix_tup) (pe_ix (ixK (K := K) rIxT rfl ix_tup) (pv 1) pe_int (fun _ _ => rfl)) (pv 3) (fun _ _ => rfl)) (pe_ix (ixK (K := K) rIxT rfl ix_tup) (pe_ix (ixK (K := K) rIxT rfl ix_tup) (pv 1) pe_int (fun _ _ => rfl)) (pv 3) (fun _ _ => rfl)) (nomark _)))) pa_nil)))))), ?_⟩
  refine ⟨_, rfl, _, d, rfl, im, _, rfl, ?_⟩
  cases im with
  | @tup a xs ds hS hz ha =>
    refine iteF ?_
    refine ⟨_, rfl, _, _, rfl, .inr ⟨_, hS, rfl⟩, rfl, _, rfl, ite2 (fun c => ?_) (fun c => ?_)⟩
    · have e : isMove n (.tuple ds) = false := by
        rw [ha.len] at c
        match ds with
        | [] => rfl
        | [_] => rfl
        | [_, _] => rfl
        | [_, _, _] => rfl
        | [_, _, _, _] => simp at c
        | _ :: _ :: _ :: _ :: _ :: _ => rfl
      rw [e] at q
      exact q H (Fm.refl H)
    · have c : ds.length = 4 := by
        rw [ha.len] at c
        have c : ((ds.length : Nat) : Int) = 4 := by simpa using c
        omega
      obtain ⟨d1, d2, d3, d4, rfl⟩ : ∃ d1 d2 d3 d4, ds = [d1, d2, d3, d4] := by
        match ds, c with
        | [_, _, _, _], _ => exact ⟨_, _, _, _, rfl⟩
      obtain ⟨x1, x2, x3, x4, rfl, i1, i2, i3, i4⟩ := ha.four
      refine ⟨_, rfl, a, _, 0, x1, rfl, rfl, hS, atI_nat (j := 0) rfl, x1, d1, rfl, i1, fun H1 f1 => ⟨_, rfl, ?_⟩⟩
      by_cases c1 : isName d1 = true
      rotate_left
      · have c1 : isName d1 = false := Bool.eq_false_iff.mpr c1
        rw [c1]
        refine iteT ?_
        have e : isMove n (.tuple [d1, d2, d3, d4]) = false := by simp [isMove, c1]
        rw [e] at q
        exact q H1 f1
      rw [c1]
      refine iteF ?_
      refine ⟨_, rfl, 1, rfl, a, _, rfl, f1.tu.seq hS, fun z => absurd z.1 (by rw [show [x1, x2, x3, x4].length = 3 + 1 from rfl, sIx1]; decide), fun _ p np => ?_⟩
      rw [cut1]
      have f2 : Fm M0 H1 (upd H1 p (.tup [x2, x3, x4])) := Fm.new np
      refine ⟨p, rfl, ⟨_, SqT.of upd_same⟩, fun D nD => all_tup (M := M0) (ds := [d2, d3, d4]) (SqT.of upd_same) (.cons (f2.im (f1.im i2)) (.cons (f2.im (f1.im i3)) (.cons (f2.im (f1.im i4)) .nil))) (by show 3 < sizeLine; decide) nD (fun z => z) (fun e => isEnt e n 0 (some 1000)) ?_ fun H4 bs f4 eD eb => ?_⟩
      · intro i x d H' k hd him hf hk
        exact ⟨rfl, x, rfl, _, rfl, x, d, n, 0, some 1000, rfl, him, fun H5 f5 => hk H5 f5⟩
      refine ⟨D, bs, rfl, eD, _, rfl, ?_⟩
      rw [eb]
      have f5 : Fm M0 H H4 := (f1.trans f2).trans f4
      by_cases c2 : ([d2, d3, d4].all fun e => isEnt e n 0 (some 1000)) = true
      rotate_left
      · have c2 : ([d2, d3, d4].all fun e => isEnt e n 0 (some 1000)) = false := Bool.eq_false_iff.mpr c2
        rw [c2]
        refine iteT ?_
        have e : isMove n (.tuple [d1, d2, d3, d4]) = false := by
          simp only [isMove]
          simp only [List.all_cons, List.all_nil] at c2
          rw [c1, c2]
          rfl
        rw [e] at q
        exact q H4 f5
      rw [c2]
      refine iteF ?_
      have e : isMove n (.tuple [d1, d2, d3, d4]) = (List.range n).all (leAt d3 d4) := by
        simp only [isMove]
        simp only [List.all_cons, List.all_nil] at c2
        rw [c1, c2]
        rfl
      rw [e] at q
      simp only [List.all_cons, List.all_nil, Bool.and_eq_true] at c2
      obtain ⟨_, c3, c4, _⟩ := c2
      obtain ⟨ls, rfl, hl, _⟩ := isEnt_I c3
      obtain ⟨ms, rfl, hm, _⟩ := isEnt_I c4
      obtain ⟨b3, ys3, rfl, hb3, z3, j3⟩ := Im.tupI (f5.im i3)
      obtain ⟨b4, ys4, rfl, hb4, z4, j4⟩ := Im.tupI (f5.im i4)
      refine ⟨_, rfl, (n : Nat), rfl, by omega, by omega, fun D2 nD2 => all_fm (K := K) (M := M0) walk_r0 (fun _ _ => trivial) (fun i H x H' y => by rw [y.1]; exact Fm.refl H) (small1000 (by omega)) nD2 (fun z => z) (leAt (stD ls) (stD ms)) ?_ fun H6 bs6 f6 eD6 eb6 => ⟨D2, bs6, rfl, eD6, ?_⟩⟩
      · rintro i y H1 H2 k hi hf ⟨rfl, rfl⟩ hk
        have hi : i < n := by simpa using hi
        obtain ⟨u3, hu3, m3⟩ := j3.get' (i := i) (e := .int (ls[i]'(by omega))) (by rw [List.getElem?_map, List.getElem?_eq_getElem (by omega)]; rfl)
        obtain ⟨u4, hu4, m4⟩ := j4.get' (i := i) (e := .int (ms[i]'(by omega))) (by rw [List.getElem?_map, List.getElem?_eq_getElem (by omega)]; rfl)
        have m3 := Im.intI m3
        have m4 := Im.intI m4
        subst m3 m4
        have fH := f5.trans hf
        refine ⟨rfl, _, rfl, a, _, 2, .ref b3, rfl, rfl, fH.tu.seq hS, atI_nat (j := 2) rfl, _, rfl, b3, _, _, _, rfl, rfl, hf.tu.seq hb3, atI_nat hu3, _, rfl, a, _, 3, .ref b4, rfl, rfl, fH.tu.seq hS, atI_nat (j := 3) rfl, _, rfl, b4, _, _, _, rfl, rfl, hf.tu.seq hb4, atI_nat hu4, _, _, rfl, rfl, ?_⟩
        have := hk _ (Fm.refl _)
        simp only [leAt, stD, List.getElem?_map, List.getElem?_eq_getElem (show i < ls.length by omega), List.getElem?_eq_getElem (show i < ms.length by omega), Option.map_some] at this
        exact this
      · have := q H6 (f5.trans f6)
        rw [eb6]
        simpa using this
  | non => exact q H (Fm.refl H)
  | bl b => exact q H (Fm.refl H)
  | int i => exact q H (Fm.refl H)
  | str _ _ => exact q H (Fm.refl H)
end

end Mt

namespace Mt
open PySem PySem.Spec PyProof.Rows L2
/-! is_step, are_steps, is_run -/
/-- a step, by the check of the run within; deep: whether a run may stand within -/
def isStepD (m : Nat) (deep : Bool) (rec : PyData → Bool) : PyData → Bool
  | .tuple [.str s, x] => decide (s = "do") && isNum x 0 (some ((m : Int) - 1))
  | .tuple [.str s, x, r] => decide (s = "rep") && isNum x 1 none && deep && !isEmp r && rec r
  | _ => false
def allSteps (f : PyData → Bool) : PyData → Bool
  | .tuple ds => ds.all f
  | _ => false
/-- steps that may be nested n deep, n from 1 on -/
def isStep (m : Nat) : Nat → PyData → Bool
  | 0 => fun _ => false
  | n + 1 => isStepD m (decide (0 < n)) (allSteps (isStep m n))
def areSteps (m n : Nat) (d : PyData) : Bool := allSteps (isStep m n) d
def sp_is_step (K : PySem.W.Frag) (n : Nat) : Sp := fun vs H Q _ => ∃ (b v : V) (bk : Bk) (d : PyData), vs = [b, v, .int (n : Nat)] ∧ 0 < n ∧ Im K H b (bkD bk) ∧ Im K H v d ∧ ∀ H', Fm M0 H H' → Q (.bl (isStep bk.moves.length n d)) H'
def sp_are_steps (K : PySem.W.Frag) (n : Nat) : Sp := fun vs H Q _ => ∃ (b v : V) (bk : Bk) (d : PyData), vs = [b, v, .int (n : Nat)] ∧ 0 < n ∧ Im K H b (bkD bk) ∧ Im K H v d ∧ ∀ H', Fm M0 H H' → Q (.bl (areSteps bk.moves.length n d)) H'
def sp_is_run (K : PySem.W.Frag) : Sp := fun vs H Q _ => ∃ (b v : V) (bk : Bk) (d : PyData), vs = [b, v] ∧ Im K H b (bkD bk) ∧ Im K H v d ∧ ∀ H', Fm M0 H H' → Q (.bl (areSteps bk.moves.length 30 d)) H'
section
variable {P : Program} {w : World} {K : PySem.W.Frag} {mg : Str → Option Value} {base : Heap}
theorem ok_is_step1 (W : Wd K mg) {n k : Nat} (G : FnOk P w K mg base CX0 k W.a_are_steps W.d_are_steps ["book", "value", "nested"] (sp_are_steps K n)) (hk : 1 ≤ k) : FnOk P w K mg base CX0 (k + 1) W.a_is_step W.d_is_step ["book", "value", "nested"] (sp_is_step K (n + 1)) := by
  have nd := sc_is_step.nd
  refine W.D_is_step.F.ok sc_is_step (fun vs H Q E h => ?_) (fun cdv A outer s H vs Q E hr' h => ?_)
  · obtain ⟨b, v, bk, d, rfl, _⟩ := h
    rfl
  obtain ⟨b, v, bk, d, rfl, _, hb, im, q⟩ := h
  have hr : Room 1 _ := hr'.mono hk
  refine ⟨_, (pss_cons (ps_if (PW.pt (pw_or (pt_not (pt_val (pe_callB (call_isD (T := "tuple") (by decide)) (by rfl) W.n_isinstance bt_isinstance (pa_cons (pv 1) (pa_cons (pe_bltn (v := .ty "tuple") (by rfl) W.n_tuple bt_tuple rfl) pa_nil))))) (pw_or (pt_cmpR op_eq (pe_callB call_len (by rfl) W.n_len bt_len (pa_cons (pv 1) pa_nil)) pe_int (nomark _)) (pw_or1 (pt_not (pt_val (pe_callB (call_isD (T := "str") (by decide)) (by rfl) W.n_isinstance bt_isinstance (pa_cons (pe_ix ix_tup (pv 1) pe_int (fun _ _ => rfl)) (pa_cons (pe_bltn (v := .ty "str") (by rfl) W.n_str bt_str rfl) pa_nil)))))))))
        (pss_one (ps_ret pe_bl))
        pss_nil)
      (pss_cons (ps_if (PW.pt (pw_and (pt_cmpR op_eq (pe_ix ix_tup (pv 1) pe_int (fun _ _ => rfl)) pe_str (nomark _)) (pw_and1 (pt_cmpR op_eq (pe_callB call_len (by rfl) W.n_len bt_len (pa_cons (pv 1) pa_nil)) pe_int (nomark _)))))
        (pss_one (ps_ret (pe_call (ok_is_number W) (hr.mono (by decide)) (by rfl) W.D_is_number.m W.D_is_number.F.kp W.D_is_number.b .nil pass0 (pa_cons (pe_ix ix_tup (pv 1) pe_int (fun _ _ => rfl)) (pa_cons pe_int (pa_cons (pe_op op_sub (pe_callB call_len (by rfl) W.n_len bt_len (pa_cons (pe_ix ix_tup (pv 0) pe_int (fun _ _ => rfl)) pa_nil)) pe_int) pa_nil))))))
        pss_nil)
      (pss_cons (ps_if (PW.pt (pw_or (pt_cmpR op_ne (pe_ix ix_tup (pv 1) pe_int (fun _ _ => rfl)) pe_str (nomark _)) (pw_or (pt_cmpR op_ne (pe_callB call_len (by rfl) W.n_len bt_len (pa_cons (pv 1) pa_nil)) pe_int (nomark _)) (pw_or1 (pt_not (pt_val (pe_call (ok_is_number W) (hr.mono (by decide)) (by rfl) W.D_is_number.m W.D_is_number.F.kp W.D_is_number.b .nil pass0 (pa_cons (pe_ix ix_tup (pv 1) pe_int (fun _ _ => rfl)) (pa_cons pe_int (pa_cons pe_non pa_nil))))))))))
        (pss_one (ps_ret pe_bl))
        pss_nil)
      (pss_one (ps_ret (pe_and (pe_cmpR op_gt (pv 2) pe_int (nomark _)) (pe_and (pe_cmpR (op_neE hr.units) (pe_ix ix_tup (pv 1) pe_int (fun _ _ => rfl)) (pe_tup pa_nil) (nomark _)) (pe_one (pe_call G hr' (by rfl) W.D_are_steps.m W.D_are_steps.F.kp W.D_are_steps.b .nil pass0 (pa_cons (pv 0) (pa_cons (pe_ix ix_tup (pv 1) pe_int (fun _ _ => rfl)) (pa_cons (pe_op op_sub (pv 2) pe_int) pa_nil)))))))))))), ?_⟩
  have no : isStep bk.moves.length (n + 1) d = false → ∀ H', Fm M0 H H' → Q (.bl false) H' := fun e H' f => by
    have := q H' f
    rw [e] at this
    exact this
  refine ⟨_, rfl, _, d, rfl, im, _, rfl, ?_⟩
  cases im with
  | @tup a xs ds hS hz ha =>
    refine iteF ?_
    refine ⟨_, rfl, _, _, rfl, .inr ⟨_, hS, rfl⟩, rfl, _, rfl, ite2 (fun c => ?_) (fun c => ?_)⟩
    · have c : ((xs.length : Nat) : Int) = 0 := V.int.inj (of_decide_eq_true c)
      have : ds = [] := by
        have := ha.len
        cases ds with
        | nil => rfl
        | cons _ _ => simp at this; omega
      subst this
      exact no rfl H (Fm.refl H)
    have c : xs.length ≠ 0 := fun z => c (by rw [z]; rfl)
    obtain ⟨x0, xr, d0, dr, rfl, rfl, i0, ir⟩ : ∃ x0 xr d0 dr, xs = x0 :: xr ∧ ds = d0 :: dr ∧ Im K H x0 d0 ∧ ImA K H xr dr := by
      cases ha with
      | nil => exact absurd rfl c
      | cons i0 ir => exact ⟨_, _, _, _, rfl, rfl, i0, ir⟩
    -- not isinstance(value[0], str)
    refine ⟨_, rfl, a, _, 0, x0, rfl, rfl, hS, atI_nat (j := 0) rfl, _, d0, rfl, i0, _, rfl, ?_⟩
    have lenq : ∀ (k : Nat) (z : Int), z = (k : Nat) → decide (V.int ((((x0 :: xr).length : Nat)) : Int) = V.int z) = decide (dr.length + 1 = k) := fun k z ez => by
      subst ez
      have : (x0 :: xr).length = dr.length + 1 := by rw [List.length_cons, ir.len]
      rw [this]
      by_cases e : dr.length + 1 = k
      · rw [decide_eq_true e, decide_eq_true (by rw [e])]
      · rw [decide_eq_false e, decide_eq_false (fun z => e (by have := V.int.inj z; omega))]
    cases i0 with
    | @str y hy oy =>
      refine iteF ?_
      have strq : ∀ z : Str, decide (V.str y = V.str z) = decide (y = z) := fun z => by
        by_cases e : y = z
        · rw [decide_eq_true e, decide_eq_true (by rw [e])]
        · rw [decide_eq_false e, decide_eq_false (fun u => e (V.str.inj u))]
      refine ⟨_, rfl, a, _, 0, _, rfl, rfl, hS, atI_nat (j := 0) rfl, rfl, _, rfl, ?_⟩
      rw [strq]
      by_cases e1 : y = "do"
      · rw [decide_eq_true e1]
        refine iteT ⟨_, rfl, _, _, rfl, .inr ⟨_, hS, rfl⟩, rfl, _, rfl, ?_⟩
        rw [lenq 2 2 rfl]
        by_cases e2 : dr.length = 1
        · rw [decide_eq_true (by omega)]
          refine iteT ?_
          obtain ⟨x, rfl⟩ : ∃ x, dr = [x] := by
            match dr, e2 with
            | [x], _ => exact ⟨x, rfl⟩
          obtain ⟨x1, rfl, i1⟩ := ir.one
          obtain ⟨ab, pb, rb, ks, ms, rfl, hab, hpb, hkb, hrb, hmb, _, zmb⟩ := bk_parts hb
          refine ⟨_, rfl, a, _, 1, _, rfl, rfl, hS, atI_nat (j := 1) rfl, _, rfl, ab, _, 1, _, rfl, rfl, hab, atI_nat (j := 1) rfl, .ref rb, _, rfl, .inr ⟨_, hrb, rfl⟩, _, _, rfl, rfl, _, x, 0, some ((ms.length : Int) - 1), rfl, i1, ?_⟩
          have := q H (Fm.refl H)
          simp only [isStep, isStepD, decide_eq_true e1, Bool.true_and] at this
          rw [hmb.len, List.length_map]
          exact this
        · rw [decide_eq_false (by omega)]
          refine iteF ?_
          refine ⟨_, rfl, a, _, 0, _, rfl, rfl, hS, atI_nat (j := 0) rfl, rfl, _, rfl, ?_⟩
          rw [strq, decide_eq_false (by rw [e1]; decide)]
          refine iteT ?_
          refine no ?_ H (Fm.refl H)
          subst e1
          match dr with
          | [] => rfl
          | [x] => simp at e2
          | [x, r] => rfl
          | _ :: _ :: _ :: _ => rfl
      · rw [decide_eq_false e1]
        refine iteF ?_
        refine ⟨_, rfl, a, _, 0, _, rfl, rfl, hS, atI_nat (j := 0) rfl, rfl, _, rfl, ?_⟩
        rw [strq]
        by_cases e2 : y = "rep"
        rotate_left
        · rw [decide_eq_false e2]
          refine iteT (no ?_ H (Fm.refl H))
          match dr with
          | [] => rfl
          | [x] => simp [isStep, isStepD, e1]
          | [x, r] => simp [isStep, isStepD, e2]
          | _ :: _ :: _ :: _ => rfl
        rw [decide_eq_true e2]
        refine iteF ⟨_, rfl, _, _, rfl, .inr ⟨_, hS, rfl⟩, rfl, _, rfl, ?_⟩
        rw [lenq 3 3 rfl]
        by_cases e3 : dr.length = 2
        rotate_left
        · rw [decide_eq_false (by omega)]
          refine iteT (no ?_ H (Fm.refl H))
          match dr with
          | [] => rfl
          | [x] => simp [isStep, isStepD, e1]
          | [x, r] => simp at e3
          | _ :: _ :: _ :: _ => rfl
        rw [decide_eq_true (by omega)]
        refine iteF ?_
        obtain ⟨x, r, rfl⟩ : ∃ x r, dr = [x, r] := by
          match dr, e3 with
          | [x, r], _ => exact ⟨x, r, rfl⟩
        obtain ⟨x1, x2, rfl, i1, i2⟩ := ir.two
        refine ⟨_, rfl, a, _, 1, _, rfl, rfl, hS, atI_nat (j := 1) rfl, _, x, 1, none, rfl, i1, _, rfl, ?_⟩
        have eq : isStep bk.moves.length (n + 1) (.tuple [.str y, x, r]) = (isNum x 1 none && decide (0 < n) && !isEmp r && areSteps bk.moves.length n r) := by
          simp only [isStep, isStepD, decide_eq_true e2, Bool.true_and]
          rfl
        by_cases e4 : isNum x 1 none = true
        rotate_left
        · have e4 := Bool.eq_false_iff.mpr e4
          rw [e4]
          refine iteT (no ?_ H (Fm.refl H))
          rw [eq, e4]
          rfl
        rw [e4]
        refine iteF ?_
        rw [e4, Bool.true_and] at eq
        -- nested > 1 and value[2] != () and are_steps(..)
        refine ⟨_, rfl, _, _, rfl, rfl, _, rfl, ite2 (fun c => ?_) (fun c => ?_)⟩
        rotate_left
        · refine no ?_ H (Fm.refl H)
          have : ¬ 0 < n := fun z => c (decide_eq_true (by omega))
          rw [eq, decide_eq_false this]
          rfl
        have c : 0 < n := by have := of_decide_eq_true c; omega
        refine ⟨_, rfl, a, _, 2, _, rfl, rfl, hS, atI_nat (j := 2) rfl, (by show 0 ≤ sizeLine; decide), fun p hp => ?_⟩
        have f1 : Fm M0 H (upd H p (.tup [])) := Fm.new hp
        refine ⟨r, p, f1.im i2, rfl, SqT.of upd_same, _, rfl, ?_⟩
        by_cases e5 : isEmp r = true
        · rw [e5]
          refine iteF (no ?_ _ f1)
          rw [eq, e5]
          simp
        have e5 := Bool.eq_false_iff.mpr e5
        rw [e5]
        refine iteT ⟨_, rfl, _, rfl, a, _, 2, _, rfl, rfl, f1.tu.seq hS, atI_nat (j := 2) rfl, _, rfl, _, _, rfl, rfl, _, _, bk, r, ?_, c, f1.im hb, f1.im i2, fun H' f' => ?_⟩
        · have : ((n + 1 : Nat) : Int) - 1 = (n : Nat) := by omega
          show [b, x2, V.int (((n + 1 : Nat) : Int) - 1)] = _
          rw [this]
        · have := q H' (f1.trans f')
          rw [eq, e5, decide_eq_true c] at this
          simpa using this
    | non => exact no (by simp [isStep, isStepD]) H (Fm.refl H)
    | bl b => exact no (by simp [isStep, isStepD]) H (Fm.refl H)
    | int i => exact no (by simp [isStep, isStepD]) H (Fm.refl H)
    | tup _ _ _ => exact no (by simp [isStep, isStepD]) H (Fm.refl H)
  | non => exact no rfl H (Fm.refl H)
  | bl b => exact no rfl H (Fm.refl H)
  | int i => exact no rfl H (Fm.refl H)
  | str _ _ => exact no rfl H (Fm.refl H)
theorem ok_are_steps1 (W : Wd K mg) {n k : Nat} (G : FnOk P w K mg base CX0 k W.a_is_step W.d_is_step ["book", "value", "nested"] (sp_is_step K n)) : FnOk P w K mg base CX0 (k + 1) W.a_are_steps W.d_are_steps ["book", "value", "nested"] (sp_are_steps K n) := by
  have nd := sc_are_steps.nd
  refine W.D_are_steps.F.ok sc_are_steps (fun vs H Q E h => ?_) (fun cdv A outer s H vs Q E hr h => ?_)
  · obtain ⟨b, v, bk, d, rfl, _⟩ := h
    rfl
  obtain ⟨b, v, bk, d, rfl, hn, hb, im, q⟩ := h
  refine ⟨_, (pss_cons (ps_if (pt_not (pt_val (pe_callB (call_isD (T := "tuple") (by decide)) (by rfl) W.n_isinstance bt_isinstance (pa_cons (pv 1) (pa_cons (pe_bltn (v := .ty "tuple") (by rfl) W.n_tuple bt_tuple rfl) pa_nil)))))
        (pss_one (ps_ret pe_bl))
        pss_nil)
      (pss_one (ps_ret (pe_callB (cr_all rfl) (by rfl) W.n_all bt_all (pa_cons (pe_lc (own := [("step", 3)]) rfl nd (pi_tup (pv 1)) (blkOk_by (N := N_are_steps) (sc := defScope s_are_steps) (own := [("step", 3)]) (by decide +kernel)) (fun _ _ _ _ _ => (pg_name (i := 3) nd rfl (Or.inl rfl))) (fun _ _ _ _ _ => pts_nil) (fun _ _ _ _ _ => (pe_call G hr (by rfl) W.D_is_step.m W.D_is_step.F.kp W.D_is_step.b .nil pass0 (pa_cons (pv 0) (pa_cons (pv 3) (pa_cons (pv 2) pa_nil)))))) pa_nil))))), ?_⟩
  refine ⟨_, rfl, _, d, rfl, im, _, rfl, ?_⟩
  cases im with
  | @tup a xs ds hS hz ha =>
    refine iteF ?_
    refine ⟨_, rfl, a, rfl, ⟨_, hS⟩, fun D nD => all_tup (M := M0) hS ha (small1000 hz) nD (fun z => z) (isStep bk.moves.length n) ?_ fun H4 bs f4 eD eb => ⟨D, bs, rfl, eD, ?_⟩⟩
    · intro i x d H' k hd him hf hk
      exact ⟨rfl, _, rfl, x, rfl, _, rfl, b, x, bk, d, rfl, hn, hf.im hb, him, fun H5 f5 => hk H5 f5⟩
    · rw [eb]
      exact q H4 f4
  | non => exact q H (Fm.refl H)
  | bl b => exact q H (Fm.refl H)
  | int i => exact q H (Fm.refl H)
  | str _ _ => exact q H (Fm.refl H)
theorem ok_both (W : Wd K mg) : ∀ n : Nat, FnOk P w K mg base CX0 (2 * n + 2) W.a_is_step W.d_is_step ["book", "value", "nested"] (sp_is_step K n) ∧ FnOk P w K mg base CX0 (2 * n + 3) W.a_are_steps W.d_are_steps ["book", "value", "nested"] (sp_are_steps K n)
  | 0 => ⟨none_ok fun vs H Q E ⟨_, _, _, _, _, h, _⟩ => absurd h (by decide), none_ok fun vs H Q E ⟨_, _, _, _, _, h, _⟩ => absurd h (by decide)⟩
  | n + 1 => by
    have ih := (ok_both W n).2
    have h1 := ok_is_step1 W ih (by omega)
    exact ⟨h1, ok_are_steps1 W h1⟩
theorem ok_are_steps (W : Wd K mg) (n : Nat) : FnOk P w K mg base CX0 (2 * n + 3) W.a_are_steps W.d_are_steps ["book", "value", "nested"] (sp_are_steps K n) := (ok_both W n).2
theorem ok_is_run (W : Wd K mg) : FnOk P w K mg base CX0 64 W.a_is_run W.d_is_run ["book", "value"] (sp_is_run K) := by
  have nd := sc_is_run.nd
  refine W.D_is_run.F.ok sc_is_run (fun vs H Q E h => ?_) (fun cdv A outer s H vs Q E hr h => ?_)
  · obtain ⟨b, v, bk, d, rfl, _⟩ := h
    rfl
  obtain ⟨b, v, bk, d, rfl, hb, im, q⟩ := h
  refine ⟨_, (pss_one (ps_ret (pe_call (ok_are_steps W 30) (hr.mono (by decide)) (by rfl) W.D_are_steps.m W.D_are_steps.F.kp W.D_are_steps.b .nil pass0 (pa_cons (pv 0) (pa_cons (pv 1) (pa_cons (pe_glob (v := .int 30) rfl W.c_MAX_NESTED ⟨_, rfl⟩) pa_nil)))))), ?_⟩
  exact ⟨_, rfl, _, rfl, b, v, bk, d, rfl, by decide, hb, im, q⟩
end

end Mt

namespace Mt
open PySem PySem.Spec PyProof.Rows L2
/-! is_book -/
def strD : PyData → Str
  | .str x => x
  | _ => Str.empty
def fstD : PyData → PyData
  | .tuple (d :: _) => d
  | _ => .none
def bkNames (ks ms : List PyData) : List Str := ks.map strD ++ ms.map fun m => strD (fstD m)
def isBook : PyData → Bool
  | .tuple [.tuple ks, .tuple ms] => decide (1 ≤ ks.length) && decide (ks.length ≤ 6) && decide (ms.length ≤ 8) && ks.all isName && ms.all (isMove ks.length) && decide (bkNames ks ms).Nodup
  | _ => false
theorem isName_I {d : PyData} (h : isName d = true) : d = .str (strD d) := by
  cases d <;> first | rfl | cases h
theorem isMove_I {n : Nat} {d : PyData} (h : isMove n d = true) : ∃ r, d = .tuple (.str (strD (fstD d)) :: r) := by
  match d with
  | .tuple [a, t, l, m] =>
    simp only [isMove, Bool.and_eq_true] at h
    exact ⟨[t, l, m], by simp only [fstD]; rw [← isName_I h.1.1]⟩
  | .tuple [] => cases h
  | .tuple [_] => cases h
  | .tuple [_, _] => cases h
  | .tuple [_, _, _] => cases h
  | .tuple (_ :: _ :: _ :: _ :: _ :: _) => cases h
  | .none => cases h
  | .bool _ => cases h
  | .int _ => cases h
  | .str _ => cases h
  | .list _ => cases h
  | .dict _ => cases h
/-- a tuple of names as values -/
theorem ImA.names {K : PySem.W.Frag} {H : Hp} : ∀ {xs : List V} {ds : List PyData}, ImA K H xs ds → (∀ d ∈ ds, d = .str (strD d)) → xs = (ds.map strD).map V.str
  | _, _, .nil, _ => rfl
  | _, _, .cons h t, a => by
    have e := a _ List.mem_cons_self
    rw [e] at h
    rw [h.strI.1, ImA.names t fun d hd => a d (List.mem_cons_of_mem _ hd)]
    rfl
def sp_is_book (K : PySem.W.Frag) : Sp := fun vs H Q _ => ∃ (v : V) (d : PyData), vs = [v] ∧ Im K H v d ∧ ∀ H', Fm M0 H H' → Q (.bl (isBook d)) H'
section
variable {P : Program} {w : World} {K : PySem.W.Frag} {mg : Str → Option Value} {base : Heap}
theorem ok_is_book (W : Wd K mg) : FnOk P w K mg base CX0 4 W.a_is_book W.d_is_book ["value"] (sp_is_book K) := by
  have nd := sc_is_book.nd
  refine W.D_is_book.F.ok sc_is_book (fun vs H Q E h => ?_) (fun cdv A outer s H vs Q E hr h => ?_)
  · obtain ⟨v, d, rfl, _⟩ := h
    rfl
  obtain ⟨v, d, rfl, im, q⟩ := h
  refine ⟨_, (pss_cons (ps_if (PW.pt (pw_or (pt_not (pt_val (pe_callB (call_isD (T := "tuple") (by decide)) (by rfl) W.n_isinstance bt_isinstance (pa_cons (pv 0) (pa_cons (pe_bltn (v := .ty "tuple") (by rfl) W.n_tuple bt_tuple rfl) pa_nil))))) (pw_or1 (pt_cmpR op_ne (pe_callB call_len (by rfl) W.n_len bt_len (pa_cons (pv 0) pa_nil)) pe_int (nomark _)))))
        (pss_one (ps_ret pe_bl))
        pss_nil)
      (pss_cons (ps_asg (pv 0) (pg_tup rfl (pgs_cons (pg_name (i := 1) nd rfl (Or.inr rfl)) (pgs_cons (pg_name (i := 2) nd rfl (Or.inl rfl)) pgs_nil))))
      (pss_cons (ps_if (PW.pt (pw_or (pt_not (pt_val (pe_callB (call_isD (T := "tuple") (by decide)) (by rfl) W.n_isinstance bt_isinstance (pa_cons (pv 1) (pa_cons (pe_bltn (v := .ty "tuple") (by rfl) W.n_tuple bt_tuple rfl) pa_nil))))) (pw_or1 (pt_not (pt_val (pe_callB (call_isD (T := "tuple") (by decide)) (by rfl) W.n_isinstance bt_isinstance (pa_cons (pv 2) (pa_cons (pe_bltn (v := .ty "tuple") (by rfl) W.n_tuple bt_tuple rfl) pa_nil))))))))
        (pss_one (ps_ret pe_bl))
        pss_nil)
      (pss_cons (ps_if (PW.pt (pw_or (pt_not (pt_chain op_le op_le pe_int (pe_callB call_len (by rfl) W.n_len bt_len (pa_cons (pv 1) pa_nil)) (pe_glob (v := .int 6) rfl W.c_MAX_KINDS ⟨_, rfl⟩))) (pw_or (pt_cmpR op_gt (pe_callB call_len (by rfl) W.n_len bt_len (pa_cons (pv 2) pa_nil)) (pe_glob (v := .int 8) rfl W.c_MAX_MOVES ⟨_, rfl⟩) (nomark _)) (pw_or1 (pt_not (pt_val (pe_callB (cr_all rfl) (by rfl) W.n_all bt_all (pa_cons (pe_lc (own := [("kind", 3)]) rfl nd (pi_tup (pv 1)) (blkOk_by (N := N_is_book) (sc := defScope s_is_book) (own := [("kind", 3)]) (by decide +kernel)) (fun _ _ _ _ _ => (pg_name (i := 3) nd rfl (Or.inl rfl))) (fun _ _ _ _ _ => pts_nil) (fun _ _ _ _ _ => (pe_call (ok_is_name W) (hr.mono (by decide)) (by rfl) W.D_is_name.m W.D_is_name.F.kp W.D_is_name.b .nil pass0 (pa_cons (pv 3) pa_nil)))) pa_nil))))))))
        (pss_one (ps_ret pe_bl))
        pss_nil)
      (pss_cons (ps_if (pt_not (pt_val (pe_callB (cr_all rfl) (by rfl) W.n_all bt_all (pa_cons (pe_lc (own := [("move", 4)]) rfl nd (pi_tup (pv 2)) (blkOk_by (N := N_is_book) (sc := defScope s_is_book) (own := [("move", 4)]) (by decide +kernel)) (fun _ _ _ _ _ => (pg_name (i := 4) nd rfl (Or.inl rfl))) (fun _ _ _ _ _ => pts_nil) (fun _ _ _ _ _ => (pe_call (ok_is_move W) (hr.mono (by decide)) (by rfl) W.D_is_move.m W.D_is_move.F.kp W.D_is_move.b .nil pass0 (pa_cons (pe_callB (clK (K := K) rLenV rfl call_len) (by rfl) W.n_len bt_len (pa_cons (pv 1) pa_nil)) (pa_cons (pv 4) pa_nil))))) pa_nil))))
        (pss_one (ps_ret pe_bl))
        pss_nil)
      (pss_cons (ps_set (i := 5) nd rfl (Or.inl rfl) (pe_op op_cat (pe_callTy call_list_of (by rfl) W.n_list bt_list (pa_cons (pv 1) pa_nil)) (pe_lc (own := [("move", 4)]) rfl nd (pi_tup (pv 2)) (blkOk_by (N := N_is_book) (sc := defScope s_is_book) (own := [("move", 4)]) (by decide +kernel)) (fun _ _ _ _ _ => (pg_name (i := 4) nd rfl (Or.inl rfl))) (fun _ _ _ _ _ => pts_nil) (fun _ _ _ _ _ => (pe_ix (ixK (K := K) rIxT rfl ix_tup) (pv 4) pe_int (fun _ _ => rfl))))))
      (pss_one (ps_ret (pe_cmpR op_eq (pe_lenSetS (by rfl) W.n_len (by rfl) W.n_set (pv 5)) (pe_callB call_len (by rfl) W.n_len bt_len (pa_cons (pv 5) pa_nil)) (nomark _)))))))))), ?_⟩
  have no : isBook d = false → ∀ H', Fm M0 H H' → Q (.bl false) H' := fun e H' f => by
    have := q H' f
    rw [e] at this
    exact this
  refine ⟨_, rfl, _, d, rfl, im, _, rfl, ?_⟩
  cases im with
  | @tup a xs ds hS hz ha =>
    refine iteF ?_
    refine ⟨_, rfl, _, _, rfl, .inr ⟨_, hS, rfl⟩, rfl, _, rfl, ite2 (fun c => ?_) (fun c => ?_)⟩
    · refine no ?_ H (Fm.refl H)
      rw [ha.len] at c
      match ds with
      | [] => rfl
      | [_] => simp [isBook]
      | [_, _] => simp at c
      | _ :: _ :: _ :: _ => simp [isBook]
    have c : ds.length = 2 := by
      rw [ha.len] at c
      have c : ((ds.length : Nat) : Int) = 2 := by simpa using c
      omega
    obtain ⟨d1, d2, rfl⟩ : ∃ d1 d2, ds = [d1, d2] := by
      match ds, c with
      | [_, _], _ => exact ⟨_, _, rfl⟩
    obtain ⟨x1, x2, rfl, i1, i2⟩ := ha.two
    -- kinds, moves = value
    refine ⟨_, rfl, a, _, rfl, hS, rfl, x1, [x2], rfl, x2, [], rfl, rfl, ?_⟩
    refine ⟨_, rfl, _, d1, rfl, i1, _, rfl, ?_⟩
    cases i1 with
    | @tup ka kx ks hk zk hka =>
      refine iteF ⟨_, rfl, _, d2, rfl, i2, _, rfl, ?_⟩
      cases i2 with
      | @tup ma mx ms hm zm hma =>
        refine iteF ?_
        have lk := hka.len
        have lm := hma.len
        -- not 1 <= len(kinds) <= MAX_KINDS
        refine ⟨_, rfl, _, _, rfl, .inr ⟨_, hk, rfl⟩, _, _, rfl, rfl, _, rfl, ite2 (fun c1 => ?_) (fun c1 => ?_)⟩
        rotate_left
        · refine ⟨_, rfl, no ?_ H (Fm.refl H)⟩
          have c1 : ¬ 1 ≤ ks.length := fun z => c1 (decide_eq_true (by omega))
          simp [isBook, c1]
        have c1 : 1 ≤ ks.length := by have := of_decide_eq_true c1; omega
        refine ⟨_, _, rfl, rfl, _, rfl, ?_⟩
        by_cases c2 : ks.length ≤ 6
        rotate_left
        · have : decide (((kx.length : Nat) : Int) ≤ 6) = false := decide_eq_false (by omega)
          rw [this]
          refine iteT (no ?_ H (Fm.refl H))
          simp [isBook, c2]
        have : decide (((kx.length : Nat) : Int) ≤ 6) = true := decide_eq_true (by omega)
        rw [this]
        refine iteF ?_
        -- len(moves) > MAX_MOVES
        refine ⟨_, rfl, _, _, rfl, .inr ⟨_, hm, rfl⟩, _, _, rfl, rfl, _, rfl, ite2 (fun c3 => ?_) (fun c3 => ?_)⟩
        · refine no ?_ H (Fm.refl H)
          have c3 : ¬ ms.length ≤ 8 := by have := of_decide_eq_true c3; omega
          simp [isBook, c3]
        have c3 : ms.length ≤ 8 := by
          have : ¬ (8 : Int) < (mx.length : Nat) := fun z => c3 (decide_eq_true z)
          omega
        -- not all([is_name(kind) for kind in kinds])
        refine ⟨_, rfl, ka, rfl, ⟨_, hk⟩, fun D nD => all_tup (M := M0) hk hka (small1000 zk) nD (fun z => z) isName ?_ fun H1 bs f1 eD eb => ⟨D, bs, rfl, eD, _, rfl, ?_⟩⟩
        · intro i x d H' k hd him hf hk
          exact ⟨rfl, x, rfl, x, d, rfl, him, fun H5 f5 => hk H5 f5⟩
        rw [eb]
        by_cases c4 : ks.all isName = true
        rotate_left
        · have c4 := Bool.eq_false_iff.mpr c4
          rw [c4]
          refine iteT (no ?_ H1 f1)
          simp only [isBook, c4]
          simp
        rw [c4]
        refine iteF ?_
        -- not all([is_move(len(kinds), move) for move in moves])
        refine ⟨_, rfl, ma, rfl, ⟨_, f1.tu.seq hm⟩, fun D2 nD2 => all_tup (M := M0) (f1.tu.seq hm) (f1.ima hma) (small1000 zm) nD2 (fun z => z) (isMove ks.length) ?_ fun H2 bs2 f2 eD2 eb2 => ⟨D2, bs2, rfl, eD2, _, rfl, ?_⟩⟩
        · intro i x d H' k hd him hf hk'
          refine ⟨rfl, _, rfl, _, _, rfl, .inr ⟨_, (f1.trans hf).tu.seq hk, rfl⟩, x, rfl, ks.length, x, d, by rw [← lk]; rfl, him, by omega, fun H5 f5 => hk' H5 f5⟩
        rw [eb2]
        by_cases c5 : ms.all (isMove ks.length) = true
        rotate_left
        · have c5 := Bool.eq_false_iff.mpr c5
          rw [c5]
          refine iteT (no ?_ H2 (f1.trans f2))
          simp only [isBook, c5]
          simp
        rw [c5]
        refine iteF ?_
        have f3 := f1.trans f2
        have eq : isBook (.tuple [.tuple ks, .tuple ms]) = decide (bkNames ks ms).Nodup := by
          simp only [isBook, c4, c5, decide_eq_true c1, decide_eq_true c2, decide_eq_true c3, Bool.true_and]
        have nk : ∀ d ∈ ks, d = .str (strD d) := fun d hd => isName_I (List.all_eq_true.mp c4 d hd)
        have nm : ∀ d ∈ ms, ∃ r, d = .tuple (.str (strD (fstD d)) :: r) := fun d hd => isMove_I (List.all_eq_true.mp c5 d hd)
        have ekx := hka.names nk
        -- names = list(kinds) + [move[0] for move in moves]
        refine ⟨_, rfl, ka, kx, rfl, .inr (f3.tu.seq hk), fun l nl => ?_⟩
        have f4 : Fm M0 H2 (upd H2 l (.lst kx)) := Fm.new nl
        refine ⟨_, rfl, ma, rfl, ⟨_, (f3.trans f4).tu.seq hm⟩, fun D3 nD3 => lc_fm0 (M := M0) (walk_tup (xs := mx)) (fun H' f' => ((f3.trans f4).trans f').tu.seq hm) (fun i H x H' y => by rw [y.1]; exact Fm.refl H) (small1000 zm) nD3 (fun z => z)
          (fun i y _ => ∃ m, ms[i]? = some m ∧ y = .str (strD (fstD m))) (fun _ _ _ _ _ h => h) ?_ fun H5 ys f5 eD3 el hp => ?_⟩
        · rintro i x H5 H6 k hi hf ⟨rfl, hx⟩ hk'
          obtain ⟨m, em, im⟩ := hma.get hx
          obtain ⟨r, er⟩ := nm m (List.mem_of_getElem? em)
          have im := ((f3.trans f4).trans hf).im im
          rw [er] at im
          obtain ⟨pa, pxs, rfl, hp, _, hpi⟩ := Im.tupI im
          cases hpi with
          | cons h0 hr' =>
            obtain ⟨rfl, _⟩ := h0.strI
            exact ⟨rfl, _, rfl, pa, _, 0, _, rfl, rfl, hp, atI_nat (j := 0) rfl, hk' _ _ (Fm.refl _) ⟨m, em, rfl⟩⟩
        · have ey : ys = (ms.map fun m => strD (fstD m)).map V.str := by
            rw [List.map_map]
            exact list_map (by rw [el, lm]) fun i y e => hp i y e
          have el5 : H5 l = some (.lst kx) := f5.kp l _ (fun z => z) upd_same
          refine ⟨l, D3, kx, ys, rfl, rfl, el5, eD3, Nat.le_trans (by omega : kx.length + ys.length ≤ 14) (by decide), fun p hp' => ?_⟩
          have f6 : Fm M0 H5 (upd H5 p (.lst (kx ++ ys))) := Fm.new hp'
          have eN : kx ++ ys = (bkNames ks ms).map V.str := by rw [ekx, ey, ← List.map_append]; rfl
          rw [eN]
          have lN : (bkNames ks ms).length ≤ 14 := by
            unfold bkNames
            rw [List.length_append, List.length_map, List.length_map]
            omega
          refine ⟨_, rfl, p, bkNames ks ms, rfl, SqL.of upd_same, by omega, _, rfl, _, _, rfl, .inl ⟨_, SqL.of upd_same, rfl⟩, rfl, ?_⟩
          have := q _ ((f3.trans f4).trans (f5.trans f6))
          rw [eq] at this
          have e : decide (V.int ((MtS.met (bkNames ks ms)).length : Nat) = V.int (((bkNames ks ms).map V.str).length : Nat)) = decide (bkNames ks ms).Nodup := by
            rw [List.length_map]
            have mn := MtS.met_nodup (bkNames ks ms)
            by_cases hn : (bkNames ks ms).Nodup
            · rw [decide_eq_true hn, decide_eq_true (by rw [mn.mpr hn])]
            · rw [decide_eq_false hn, decide_eq_false (fun z => hn (mn.mp (by have := V.int.inj z; omega)))]
          rw [e]
          rw [eN] at this
          exact this
      | non => exact no (by simp [isBook]) H (Fm.refl H)
      | bl b => exact no (by simp [isBook]) H (Fm.refl H)
      | int i => exact no (by simp [isBook]) H (Fm.refl H)
      | str _ _ => exact no (by simp [isBook]) H (Fm.refl H)
    | non => exact no (by simp [isBook]) H (Fm.refl H)
    | bl b => exact no (by simp [isBook]) H (Fm.refl H)
    | int i => exact no (by simp [isBook]) H (Fm.refl H)
    | str _ _ => exact no (by simp [isBook]) H (Fm.refl H)
  | non => exact no rfl H (Fm.refl H)
  | bl b => exact no rfl H (Fm.refl H)
  | int i => exact no rfl H (Fm.refl H)
  | str _ _ => exact no rfl H (Fm.refl H)
end

end Mt

namespace Mt
open PySem PySem.Spec PyProof.Rows L2
/-! the law's numbers and draws -/
def sp_law_mix (K : PySem.W.Frag) : Sp := fun vs H Q _ => ∃ a b : Int, vs = [.int a, .int b] ∧ ∀ c : Int, 0 ≤ c → Q (.int c) H
def sp_law_take (K : PySem.W.Frag) : Sp := fun vs H Q _ => ∃ (d l : Addr) (row : List Int) (b : Int), vs = [.ref d, .int b] ∧ 0 < b ∧ drawn d l row H (fun v _ => ∃ c : Int, v = .int c ∧ 0 ≤ c ∧ c < b) Q
def sp_law_numbers (K : PySem.W.Frag) : Sp := fun vs H Q _ => ∃ (a : Addr) (ns : List Int) (n : Nat), vs = [.ref a, .int (n : Nat)] ∧ SqL K H a (ns.map V.int) ∧ ns.length ≤ 63 ∧ n ≤ 1000 ∧
  ∀ H' (p : Addr) (row : List Int), Fm M0 H H' → H p = none → H' p = some (.lst (row.map V.int)) → row.length = n → Q (.ref p) H'
def sp_law_draws (K : PySem.W.Frag) : Sp := fun vs H Q _ => ∃ (a : Addr) (ns : List Int) (n : Nat), vs = [.ref a, .int (n : Nat)] ∧ SqL K H a (ns.map V.int) ∧ ns.length ≤ 63 ∧ 0 < n ∧ n ≤ 1000 ∧
  ∀ H' (d l : Addr) (row : List Int), Fm M0 H H' → Dr d l row H' → Q (.ref d) H'
section
variable {P : Program} {w : World} {K : PySem.W.Frag} {mg : Str → Option Value} {base : Heap}
theorem ok_law_mix (W : Wd K mg) : FnOk P w K mg base CX0 1 W.a__law_mix W.d__law_mix ["first", "second"] (sp_law_mix K) := by
  have nd := sc_law_mix.nd
  refine W.D__law_mix.F.ok sc_law_mix (fun vs H Q E h => ?_) (fun cdv A outer s H vs Q E hr h => ?_)
  · obtain ⟨a, b, rfl, _⟩ := h
    rfl
  obtain ⟨a, b, rfl, q⟩ := h
  refine ⟨_, (pss_cons (ps_set (i := 2) nd rfl (Or.inl rfl) (pe_op op_mod (pe_callTy call_int1 (by rfl) W.n_int bt_int (pa_cons (pe_op op_add (pe_op op_add (pe_op op_mul (pv 0) pe_int) (pe_op op_mul (pv 1) pe_int)) pe_int) pa_nil)) pe_int))
      (pss_one (ps_ret (pe_op op_mod (pe_callTy call_int1 (by rfl) W.n_int bt_int (pa_cons (pe_op op_add (pe_op op_add (pe_op op_mul (pv 2) pe_int) (pe_op op_mul (pv 1) pe_int)) pe_int) pa_nil)) pe_int)))), ?_⟩
  have big : ∀ x : Int, CMul x 48271 := fun x => .inr (by decide)
  have big2 : ∀ x : Int, CMul x 69621 := fun x => .inr (by decide)
  have big3 : ∀ x : Int, CMul x 40692 := fun x => .inr (by decide)
  have big4 : ∀ x : Int, CMul x 7919 := fun x => .inr (by decide)
  refine ⟨_, rfl, _, _, rfl, rfl, big _, _, rfl, _, _, rfl, rfl, big2 _, _, _, rfl, rfl, _, _, rfl, rfl, .inl ⟨_, rfl, ?_⟩⟩
  refine ⟨_, _, rfl, rfl, (by show (0 : Int) < 2147483647; decide), ?_⟩
  refine ⟨_, rfl, _, _, rfl, rfl, big3 _, _, rfl, _, _, rfl, rfl, big4 _, _, _, rfl, rfl, _, _, rfl, rfl, .inl ⟨_, rfl, ?_⟩⟩
  refine ⟨_, _, rfl, rfl, (by show (0 : Int) < 2147483399; decide), ?_⟩
  exact q _ (Int.emod_nonneg _ (by decide))
theorem ok_law_take (W : Wd K mg) : FnOk P w K mg base CX0 1 W.a__law_take W.d__law_take ["draws", "bound"] (sp_law_take K) := by
  have nd := sc_law_take.nd
  refine W.D__law_take.F.ok sc_law_take (fun vs H Q E h => ?_) (fun cdv A outer s H vs Q E hr h => ?_)
  · obtain ⟨d, l, row, b, rfl, _⟩ := h
    rfl
  obtain ⟨d, l, row, b, rfl, hb, hd, q⟩ := h
  refine ⟨_, (pss_cons (ps_set (i := 2) nd rfl (Or.inl rfl) (pe_dget (hu_of hr) (pv 0) pe_str (fun _ _ => rfl)))
      (pss_cons (ps_set (i := 3) nd rfl (Or.inl rfl) (pe_dget (hu_of hr) (pv 0) pe_str (fun _ _ => rfl)))
      (pss_cons (ps_dput (hu_of hr) (pv 0) pe_str (pe_op op_add (pv 3) pe_int) rfl)
      (pss_cons (ps_set (i := 4) nd rfl (Or.inl rfl) (pe_op op_add (pe_ix ix_list (pv 2) (pe_op op_mod (pe_callTy call_int1 (by rfl) W.n_int bt_int (pa_cons (pv 3) pa_nil)) (pe_callB call_len (by rfl) W.n_len bt_len (pa_cons (pv 2) pa_nil))) (fun _ _ => rfl)) (pe_op op_fdivN (pv 3) (pe_callB call_len (by rfl) W.n_len bt_len (pa_cons (pv 2) pa_nil)))))
      (pss_one (ps_ret (pe_op op_mod (pe_callTy call_int1 (by rfl) W.n_int bt_int (pa_cons (pv 4) pa_nil)) (pv 1)))))))), ?_⟩
  obtain ⟨n, e⟩ := hd.at_
  have hl := hd.pos
  have hle := hd.le
  have hlen : ((row.map V.int).length : Int) = (row.length : Nat) := by rw [List.length_map]
  refine ⟨_, rfl, d, _, rfl, get_row e, _, rfl, d, _, rfl, get_at e, ?_⟩
  have e2 : upd H d (.dK [(kAt, .int ((n : Int) + 1)), (kRow, .ref l)]) d = some (.dK [(kAt, .int ((n + 1 : Nat) : Int)), (kRow, .ref l)]) := by rw [upd_same]; rfl
  have f : Fm (Md d) H (upd H d (.dK [(kAt, .int ((n : Int) + 1)), (kRow, .ref l)])) := ⟨fun a o hm h => by rw [upd_ne hm]; exact h, Tu.dK e⟩
  have d2 : Dr d l row (upd H d (.dK [(kAt, .int ((n : Int) + 1)), (kRow, .ref l)])) := ⟨⟨n + 1, e2⟩, by rw [upd_ne hd.ne.symm]; exact hd.row_, hl, hle⟩
  refine ⟨_, rfl, _, _, rfl, rfl, _, rfl, d, _, rfl, put_at e, ?_⟩
  refine ⟨_, rfl, _, rfl, .inl ⟨_, rfl, _, rfl, _, _, rfl, .inl ⟨_, SqL.of d2.row_, rfl⟩, _, _, rfl, rfl, ?_, ?_⟩⟩
  · rw [hlen]; omega
  have hj : (n % row.length) < row.length := Nat.mod_lt _ hl
  have hx : (row.map V.int)[n % row.length]? = some (.int row[n % row.length]) := by rw [List.getElem?_map, List.getElem?_eq_getElem hj]; rfl
  have ei : (n : Int) % ((row.map V.int).length : Int) = ((n % row.length : Nat) : Int) := by rw [hlen]; exact (Int.natCast_emod _ _).symm
  refine ⟨l, _, _, _, rfl, rfl, SqL.of d2.row_, by rw [ei]; exact atI_nat hx, _, rfl, _, rfl, _, _, rfl, .inl ⟨_, SqL.of d2.row_, rfl⟩, _, _, rfl, rfl, ⟨by rw [hlen]; omega, by rw [hlen]; omega⟩, ?_⟩
  refine ⟨_, _, rfl, rfl, _, rfl, .inl ⟨_, rfl, _, rfl, _, _, rfl, rfl, hb, ?_⟩⟩
  exact q _ _ f d2 ⟨_, rfl, Int.emod_nonneg _ (by omega), Int.emod_lt_of_pos _ hb⟩
theorem take_len (n : Nat) (xs : List V) : cutV xs none (some (n : Nat)) = xs.take n := by
  unfold cutV
  rw [HT.sIx_none, HT.sIx_nat, List.drop_zero, Nat.sub_zero]
  by_cases h : n ≤ xs.length
  · rw [Nat.min_eq_left h]
  · rw [Nat.min_eq_right (by omega), List.take_of_length_le (Nat.le_refl _), List.take_of_length_le (by omega)]
/-- a list of ints grown in a loop -/
def Grow (p : Addr) (m : Nat) (H0 H : Hp) : Prop := Fm M0 H0 H ∧ ∃ xs : List Int, H p = some (.lst (xs.map V.int)) ∧ xs.length ≤ m
theorem Grow.put {p : Addr} {m m' : Nat} {H0 H : Hp} {xs : List Int} {x : Int} (f : Fm M0 H0 H) (e : H p = some (.lst (xs.map V.int))) (hl : xs.length ≤ m) (n : H0 p = none) (hm : m + 1 ≤ m') :
    Grow p m' H0 (upd H p (.lst (xs.map V.int ++ [.int x]))) :=
  ⟨f.mutL n e, xs ++ [x], by rw [upd_same, List.map_append]; rfl, by rw [List.length_append, List.length_singleton]; omega⟩
theorem ok_law_numbers (W : Wd K mg) : FnOk P w K mg base CX0 2 W.a__law_numbers W.d__law_numbers ["script", "count"] (sp_law_numbers K) := by
  have nd := sc_law_numbers.nd
  refine W.D__law_numbers.F.ok sc_law_numbers (fun vs H Q E h => ?_) (fun cdv A outer s H vs Q E hr h => ?_)
  · obtain ⟨a, ns, n, rfl, _⟩ := h
    rfl
  obtain ⟨a, ns, n, rfl, hS, hns, hn, q⟩ := h
  refine ⟨_, (pss_cons (ps_set (i := 2) nd rfl (Or.inl rfl) (pe_lst pa_nil))
      (pss_cons (ps_set (i := 3) nd rfl (Or.inl rfl) (pe_op op_add (pe_callB call_len (by rfl) W.n_len bt_len (pa_cons (pv 0) pa_nil)) pe_int))
      (pss_cons (ps_for PassesOwn.never rfl (pi_list (pe_slice sl_list (pv 0) po_none (po_some pe_int))) (pg_name (i := 4) nd rfl (Or.inl rfl))
        (pss_cons (ps_set (i := 5) nd rfl (Or.inl rfl) (pe_callB call_abs (by rfl) W.n_abs bt_abs (pa_cons (pv 4) pa_nil)))
        (pss_cons (ps_set (i := 3) nd rfl (Or.inl rfl) (pe_call (ok_law_mix W) (hr.mono (by decide)) (by rfl) W.D__law_mix.m W.D__law_mix.F.kp W.D__law_mix.b .nil pass0 (pa_cons (pv 3) (pa_cons (pe_op op_mod (pe_callTy call_int1 (by rfl) W.n_int bt_int (pa_cons (pv 5) pa_nil)) pe_int) pa_nil))))
        (pss_one (ps_if (pt_cmpR op_ge (pv 5) (pe_op op_pow pe_int pe_int) (nomark _))
          (pss_one (ps_for PassesOwn.never rfl (pi_range1 rfl W.n_range (pa_cons pe_int pa_nil)) (pg_name (i := 6) nd rfl (Or.inl rfl))
            (pss_one (ps_if (pt_cmpR op_gt (pv 5) pe_int (nomark _))
              (pss_cons (ps_expr (pe_bm PySem.F.plainAttrs_list PySem.F.slot_list_append PySem.F.type_list_append mt_append (pv 2) (pa_cons (pe_op op_mod (pe_callTy call_int1 (by rfl) W.n_int bt_int (pa_cons (pv 5) pa_nil)) pe_int) pa_nil)))
              (pss_one (ps_set (i := 5) nd rfl (Or.inl rfl) (pe_op op_fdivN (pv 5) pe_int))))
              pss_nil))))
          (pss_one (ps_for PassesOwn.never rfl (pi_range1 rfl W.n_range (pa_cons pe_int pa_nil)) (pg_name (i := 6) nd rfl (Or.inl rfl))
            (pss_one (ps_expr (pe_bm PySem.F.plainAttrs_list PySem.F.slot_list_append PySem.F.type_list_append mt_append (pv 2) (pa_cons (pe_op op_mod (pe_callTy call_int1 (by rfl) W.n_int bt_int (pa_cons (pe_call (ok_law_mix W) (hr.mono (by decide)) (by rfl) W.D__law_mix.m W.D__law_mix.F.kp W.D__law_mix.b .nil pass0 (pa_cons (pv 5) (pa_cons (pe_op op_add (pv 6) pe_int) pa_nil))) pa_nil)) pe_int) pa_nil)))))))))))
      (pss_cons (ps_for PassesOwn.never rfl (pi_range1 rfl W.n_range (pa_cons (pv 1) pa_nil)) (pg_name (i := 6) nd rfl (Or.inl rfl))
        (pss_one (ps_if (pt_cmpR op_lt (pe_callB call_len (by rfl) W.n_len bt_len (pa_cons (pv 2) pa_nil)) (pv 1) (nomark _))
          (pss_cons (ps_set (i := 3) nd rfl (Or.inl rfl) (pe_call (ok_law_mix W) (hr.mono (by decide)) (by rfl) W.D__law_mix.m W.D__law_mix.F.kp W.D__law_mix.b .nil pass0 (pa_cons (pv 3) (pa_cons (pe_op op_add (pv 6) pe_int) pa_nil))))
          (pss_one (ps_expr (pe_bm PySem.F.plainAttrs_list PySem.F.slot_list_append PySem.F.type_list_append mt_append (pv 2) (pa_cons (pe_op op_mod (pe_callTy call_int1 (by rfl) W.n_int bt_int (pa_cons (pv 3) pa_nil)) pe_int) pa_nil)))))
          pss_nil)))
      (pss_one (ps_ret (pe_slice sl_list (pv 2) po_none (po_some (pv 1))))))))), ?_⟩
  -- found = []; total = len(script) + 1
  refine ⟨Nat.zero_le _, fun p np => ?_⟩
  have f0 : Fm M0 H (upd H p (.lst [])) := Fm.new np
  refine ⟨_, rfl, _, _, rfl, .inl ⟨_, f0.seqL (fun z => z) hS, rfl⟩, _, _, rfl, rfl, ?_⟩
  -- for cell in script[:63]
  refine ⟨_, rfl, 63, rfl, a, _, rfl, f0.seqL (fun z => z) hS, fun c nc => ?_⟩
  have ec : cutV (ns.map V.int) none (some 63) = ns.map V.int := by
    have := take_len 63 (ns.map V.int)
    rw [show ((63 : Nat) : Int) = 63 from rfl] at this
    rw [this, List.take_of_length_le (by rw [List.length_map]; exact hns)]
  rw [ec]
  have f1 : Fm M0 (upd H p (.lst [])) (upd (upd H p (.lst [])) c (.lst (ns.map V.int))) := Fm.new nc
  have npc : c ≠ p := fun z => by rw [z, upd_same] at nc; cases nc
  have nc0 : H c = none := (f0.fresh nc (fun z => z))
  refine ⟨c, rfl, ⟨_, SqL.of upd_same⟩, for_list (K := K) (a := c) (xs := ns.map V.int) (fun i σ H2 => ∃ (t : Int) (y4 y5 y6 : Option V), σ = [some (.ref a), some (.int (n : Nat)), some (.ref p), some (.int t), y4, y5, y6] ∧ H2 c = some (.lst (ns.map V.int)) ∧ Grow p (60 * i) H H2)
    ⟨_, none, none, none, rfl, upd_same, f0.trans f1, [], by rw [upd_ne npc.symm, upd_same]; rfl, Nat.zero_le _⟩ (fun i σ H2 _ ⟨_, _, _, _, _, h, _⟩ => SqL.of h) ?_ ?_⟩
  · rintro i y σ H2 hy ⟨t, y4, y5, y6, rfl, hc2, hf2, xs, hp2, hx2⟩
    obtain ⟨z, rfl⟩ : ∃ z, y = .int z := by
      rw [List.getElem?_map] at hy
      cases e : ns[i]? with
      | none => rw [e] at hy; cases hy
      | some z => rw [e] at hy; exact ⟨z, (Option.some.inj hy).symm⟩
    have hi : i < 63 := by
      have := (List.getElem?_eq_some_iff.mp hy).1
      rw [List.length_map] at this
      omega
    -- number = abs(cell); total = _law_mix(total, int(number) % 2147483647)
    refine ⟨_, rfl, z, rfl, ?_⟩
    have hnum : 0 ≤ (if z < 0 then -z else z) := by split <;> omega
    generalize (if z < 0 then -z else z) = number at hnum
    refine ⟨_, rfl, _, rfl, .inl ⟨_, rfl, _, _, rfl, rfl, (by show (0 : Int) < 2147483647; decide), _, _, rfl, fun t2 ht2 => ?_⟩⟩
    -- if number >= 10 ** 18
    refine ⟨_, rfl, _, _, rfl, rfl, ⟨by decide, by decide, by decide⟩, _, _, rfl, rfl, _, rfl, ite2 (fun _ => ?_) (fun _ => ?_)⟩
    · refine ⟨60, rfl, by decide, by decide, for_range (lo := 0) (n := 60) (fun j σ H3 => ∃ (m : Int) (y6 : Option V), σ = [some (.ref a), some (.int (n : Nat)), some (.ref p), some (.int t2), some (.int z), some (.int m), y6] ∧ H3 c = some (.lst (ns.map V.int)) ∧ Grow p (60 * i + j) H H3)
        ⟨number, y6, rfl, hc2, hf2, xs, hp2, hx2⟩ ?_ ?_⟩
      · rintro j σ H3 hj ⟨m, y6, rfl, hc3, hf3, ys, hp3, hx3⟩
        refine ⟨_, rfl, _, _, rfl, rfl, _, rfl, ite2 (fun _ => ?_) (fun _ => ?_)⟩
        · refine ⟨_, rfl, .inl ⟨rfl, _, SqL.of hp3⟩, _, rfl, .inl ⟨_, rfl, _, _, rfl, rfl, (by show (0 : Int) < 1000; decide), p, _, _, rfl, rfl, hp3, Nat.lt_of_le_of_lt (by rw [List.length_map]; omega : _ ≤ 3800) (by decide), ?_⟩⟩
          refine ⟨_, rfl, _, _, rfl, rfl, ⟨by decide, by decide⟩, ?_⟩
          exact ⟨_, _, rfl, by rw [upd_ne npc]; exact hc3, Grow.put hf3 hp3 hx3 np (by omega)⟩
        · exact ⟨m, _, rfl, hc3, hf3, ys, hp3, by omega⟩
      · rintro σ H3 ⟨m, y6, rfl, hc3, hf3, ys, hp3, hx3⟩
        exact ⟨t2, _, _, _, rfl, hc3, hf3, ys, hp3, by omega⟩
    · refine ⟨6, rfl, by decide, by decide, for_range (lo := 0) (n := 6) (fun j σ H3 => ∃ (y6 : Option V), σ = [some (.ref a), some (.int (n : Nat)), some (.ref p), some (.int t2), some (.int z), some (.int number), y6] ∧ H3 c = some (.lst (ns.map V.int)) ∧ Grow p (60 * i + j) H H3)
        ⟨y6, rfl, hc2, hf2, xs, hp2, hx2⟩ ?_ ?_⟩
      · rintro j σ H3 hj ⟨y6, rfl, hc3, hf3, ys, hp3, hx3⟩
        refine ⟨_, rfl, .inl ⟨rfl, _, SqL.of hp3⟩, _, rfl, _, rfl, _, _, rfl, rfl, _, _, rfl, fun c3 hc3' => .inl ⟨_, rfl, _, _, rfl, rfl, (by show (0 : Int) < 1000; decide), p, _, _, rfl, rfl, hp3, Nat.lt_of_le_of_lt (by rw [List.length_map]; omega : _ ≤ 3800) (by decide), ?_⟩⟩
        exact ⟨_, rfl, by rw [upd_ne npc]; exact hc3, Grow.put hf3 hp3 hx3 np (by omega)⟩
      · rintro σ H3 ⟨y6, rfl, hc3, hf3, ys, hp3, hx3⟩
        exact ⟨t2, _, _, _, rfl, hc3, hf3, ys, hp3, by omega⟩
  · rintro σ H2 ⟨t, y4, y5, y6, rfl, hc2, hf2, xs, hp2, hx2⟩
    rw [List.length_map] at hx2
    -- for k in range(count)
    refine ⟨_, rfl, (n : Nat), rfl, by omega, by omega, for_range (lo := 0) (n := n) (fun j σ H3 => ∃ (t : Int) (y6 : Option V), σ = [some (.ref a), some (.int (n : Nat)), some (.ref p), some (.int t), y4, y5, y6] ∧ Fm M0 H H3 ∧ ∃ ys : List Int, H3 p = some (.lst (ys.map V.int)) ∧ ys.length ≤ 3780 + j ∧ j ≤ ys.length)
      ⟨t, y6, rfl, hf2, xs, hp2, by omega, Nat.zero_le _⟩ ?_ ?_⟩
    · rintro j σ H3 hj ⟨t, y6, rfl, hf3, ys, hp3, hx3, hx4⟩
      refine ⟨_, rfl, _, _, rfl, .inl ⟨_, SqL.of hp3, rfl⟩, _, rfl, _, _, rfl, rfl, _, rfl, ite2 (fun cc => ?_) (fun cc => ?_)⟩
      · refine ⟨_, rfl, _, rfl, _, _, rfl, rfl, _, _, rfl, fun c3 hc3' => ?_⟩
        refine ⟨_, rfl, .inl ⟨rfl, _, SqL.of hp3⟩, _, rfl, .inl ⟨_, rfl, _, _, rfl, rfl, (by show (0 : Int) < 1000; decide), p, _, _, rfl, rfl, hp3, Nat.lt_of_le_of_lt (by rw [List.length_map]; omega : _ ≤ 4800) (by decide), ?_⟩⟩
        refine ⟨c3, _, rfl, hf3.mutL np hp3, ys ++ [c3 % 1000], by rw [upd_same, List.map_append]; rfl, by rw [List.length_append, List.length_singleton]; omega, by rw [List.length_append, List.length_singleton]; omega⟩
      · have : ¬ ((ys.map V.int).length : Int) < (n : Nat) := fun z => cc (decide_eq_true z)
        rw [List.length_map] at this
        exact ⟨t, _, rfl, hf3, ys, hp3, by omega, by omega⟩
    · rintro σ H3 ⟨t, y6, rfl, hf3, ys, hp3, hx3, hx4⟩
      -- return found[:count]
      refine ⟨_, rfl, _, rfl, (n : Nat), rfl, p, _, rfl, SqL.of hp3, fun r nr => ?_⟩
      rw [take_len, ← List.map_take]
      have fr : Fm M0 H3 (upd H3 r (.lst ((ys.take n).map V.int))) := Fm.new nr
      exact q _ r (ys.take n) (hf3.trans fr) (hf3.fresh nr (fun z => z)) upd_same (by rw [List.length_take]; omega)
theorem ok_law_draws (W : Wd K mg) : FnOk P w K mg base CX0 3 W.a__law_draws W.d__law_draws ["script", "count"] (sp_law_draws K) := by
  have nd := sc_law_draws.nd
  refine W.D__law_draws.F.ok sc_law_draws (fun vs H Q E h => ?_) (fun cdv A outer s H vs Q E hr h => ?_)
  · obtain ⟨a, ns, n, rfl, _⟩ := h
    rfl
  obtain ⟨a, ns, n, rfl, hS, hns, h0, hn, q⟩ := h
  refine ⟨_, (pss_one (ps_ret (pe_disp (pps_cons pe_str pe_int (pps_cons pe_str (pe_call (ok_law_numbers W) (hr.mono (by decide)) (by rfl) W.D__law_numbers.m W.D__law_numbers.F.kp W.D__law_numbers.b .nil pass0 (pa_cons (pv 0) (pa_cons (pv 1) pa_nil))) pps_nil)) (by rfl) (by rfl) (fun z => by cases z) (by decide)))), ?_⟩
  intro d nd'
  have f0 : Fm M0 H (upd H d (.dK [])) := Fm.new nd'
  refine ⟨_, rfl, _, rfl, a, ns, n, rfl, f0.seqL (fun z => z) hS, hns, hn, fun H1 p row f1 np hp hl => ?_⟩
  have ed := f1.kp d _ (fun z => z) upd_same
  refine ⟨ed, [(kAt, .int 0), (kRow, .ref p)], rfl, (by show 2 ≤ 15; decide), ?_⟩
  have em : mergeK [] [(kAt, V.int 0), (kRow, V.ref p)] = [(kAt, V.int 0), (kRow, V.ref p)] := by
    unfold mergeK
    simp only [List.foldl_cons, List.foldl_nil]
    have : putK ([] : List (Key × V)) kAt (V.int 0) = [(kAt, V.int 0)] := rfl
    rw [this]
    unfold putK
    rw [if_neg]
    · rfl
    · simp only [List.any_cons, List.any_nil, Bool.or_false, decide_eq_true_eq]
      exact kAt_ne
  rw [em]
  have ndp : p ≠ d := fun z => by rw [z, upd_same] at np; cases np
  refine q _ d p row ((f0.trans f1).mut nd' ed (Tu.dK ed)) ⟨⟨0, upd_same⟩, by rw [upd_ne ndp]; exact hp, by omega, by omega⟩
end

end Mt

namespace Mt
open PySem PySem.Spec PyProof.Rows L2
/-! the law's _law_same, _law_stock, _law_nested -/
theorem depth_get {d : PyData} : ∀ {ds : List PyData}, d ∈ ds → d.depth ≤ PyData.depthAll ds
  | e :: r, h => by
    simp only [PyData.depthAll]
    rcases List.mem_cons.mp h with rfl | h
    · omega
    · have := depth_get h
      omega
theorem depth_tuple (ds : List PyData) : (PyData.tuple ds).depth = PyData.depthAll ds + 1 := by simp only [PyData.depth]
/-- the same data on both sides -/
def sp_law_same (K : PySem.W.Frag) (n : Nat) : Sp := fun vs H Q _ => ∃ (a b : V) (d : PyData), vs = [a, b] ∧ Im K H a d ∧ Im K H b d ∧ d.depth < n ∧ ∀ H', Fm M0 H H' → Q (.bl true) H'
def sp_law_stock (K : PySem.W.Frag) : Sp := fun vs H Q _ => ∃ (d l : Addr) (row : List Int) (n : Nat) (m : Int), vs = [.ref d, .int (n : Nat), .int m] ∧ n ≤ 6 ∧ 0 ≤ m ∧
  drawn d l row H (fun v H' => ∃ st : List Int, Im K H' v (stD st) ∧ st.length = n ∧ ∀ x ∈ st, 0 ≤ x ∧ x ≤ m) Q
def nestD (d : PyData) : Nat → PyData
  | 0 => d
  | n + 1 => .tuple [.tuple [.str "rep", .int 2, nestD d n]]
def sp_law_nested (K : PySem.W.Frag) : Sp := fun vs H Q _ => ∃ (v : V) (d : PyData) (n : Nat), vs = [v, .int (n : Nat)] ∧ Im K H v d ∧ n ≤ 1000 ∧ ∀ v' H', Fm M0 H H' → Im K H' v' (nestD d n) → Q v' H'
/-- an item of a written list of ints -/
theorem pick {ys : List Int} {c : Int} (h0 : 0 ≤ c) (h : c < (ys.length : Nat)) : ∃ y ∈ ys, atI (ys.map V.int) c = some (.int y) := by
  obtain ⟨j, rfl⟩ : ∃ j : Nat, c = (j : Nat) := ⟨c.toNat, by omega⟩
  have hj : j < ys.length := by omega
  exact ⟨ys[j], List.getElem_mem hj, atI_nat (by rw [List.getElem?_map, List.getElem?_eq_getElem hj]; rfl)⟩
theorem Fm.up {d : Addr} {H H' : Hp} (f : Fm M0 H H') : Fm (Md d) H H' := f.to
/-- a new object behind draws -/
theorem Fm.newD {d : Addr} {H H1 : Hp} {p : Addr} {o : HO} (f : Fm (Md d) H H1) (n : H1 p = none) : Fm (Md d) H (upd H1 p o) := f.trans (Fm.new n)
theorem stD_im {K : PySem.W.Frag} {H : Hp} {a : Addr} {st : List Int} (h : H a = some (.tup (st.map V.int))) (hl : st.length ≤ 1000) : Im K H (.ref a) (stD st) := by
  refine .tup (SqT.of h) (by rw [List.length_map]; exact hl) ?_
  clear h hl
  induction st with
  | nil => exact .nil
  | cons x r ih => exact .cons (.int x) ih
section
variable {P : Program} {w : World} {K : PySem.W.Frag} {mg : Str → Option Value} {base : Heap}
theorem ok_law_same1 (W : Wd K mg) {n k : Nat} (G : FnOk P w K mg base CX0 k W.a__law_same W.d__law_same ["a", "b"] (sp_law_same K n)) : FnOk P w K mg base CX0 (k + 1) W.a__law_same W.d__law_same ["a", "b"] (sp_law_same K (n + 1)) := by
  have nd := sc_law_same.nd
  refine W.D__law_same.F.ok sc_law_same (fun vs H Q E h => ?_) (fun cdv A outer s H vs Q E hr h => ?_)
  · obtain ⟨a, b, d, rfl, _⟩ := h
    rfl
  obtain ⟨a, b, d, rfl, ia, ib, hd, q⟩ := h
  refine ⟨_, (pss_cons (ps_if (PW.pt (pw_or (PW.pt (pw_and (pt_val (pe_callB (call_isD (T := "tuple") (by decide)) (by rfl) W.n_isinstance bt_isinstance (pa_cons (pv 0) (pa_cons (pe_bltn (v := .ty "tuple") (by rfl) W.n_tuple bt_tuple rfl) pa_nil)))) (pw_and1 (pt_val (pe_callB (call_isD (T := "tuple") (by decide)) (by rfl) W.n_isinstance bt_isinstance (pa_cons (pv 1) (pa_cons (pe_bltn (v := .ty "tuple") (by rfl) W.n_tuple bt_tuple rfl) pa_nil))))))) (pw_or1 (PW.pt (pw_and (pt_val (pe_callB (call_isD (T := "list") (by decide)) (by rfl) W.n_isinstance bt_isinstance (pa_cons (pv 0) (pa_cons (pe_bltn (v := .ty "list") (by rfl) W.n_list bt_list rfl) pa_nil)))) (pw_and1 (pt_val (pe_callB (call_isD (T := "list") (by decide)) (by rfl) W.n_isinstance bt_isinstance (pa_cons (pv 1) (pa_cons (pe_bltn (v := .ty "list") (by rfl) W.n_list bt_list rfl) pa_nil))))))))))
        (pss_one (ps_ret (pe_and (pe_cmpR op_eq (pe_callB call_len (by rfl) W.n_len bt_len (pa_cons (pv 0) pa_nil)) (pe_callB call_len (by rfl) W.n_len bt_len (pa_cons (pv 1) pa_nil)) (nomark _)) (pe_one (pe_callB (cr_all rfl) (by rfl) W.n_all bt_all (pa_cons (pe_lc (own := [("k", 2)]) rfl nd (pi_range1 rfl W.n_range (pa_cons (pe_callB call_len (by rfl) W.n_len bt_len (pa_cons (pv 0) pa_nil)) pa_nil)) (blkOk_by (N := N_law_same) (sc := defScope s_law_same) (own := [("k", 2)]) (by decide +kernel)) (fun _ _ _ _ _ => (pg_name (i := 2) nd rfl (Or.inl rfl))) (fun _ _ _ _ _ => pts_nil) (fun _ _ _ _ _ => (pe_call G hr (by rfl) W.D__law_same.m W.D__law_same.F.kp W.D__law_same.b .nil pass0 (pa_cons (pe_ix (ixK (K := K) rIxT rfl ix_tup) (pv 0) (pv 2) (fun _ _ => rfl)) (pa_cons (pe_ix (ixK (K := K) rIxT rfl ix_tup) (pv 1) (pv 2) (fun _ _ => rfl)) pa_nil))))) pa_nil))))))
        pss_nil)
      (pss_cons (ps_if (PW.pt (pw_and (pt_val (pe_callB (call_isD (T := "dict") (by decide)) (by rfl) W.n_isinstance bt_isinstance (pa_cons (pv 0) (pa_cons (pe_bltn (v := .ty "dict") (by rfl) W.n_dict bt_dict rfl) pa_nil)))) (pw_and1 (pt_val (pe_callB (call_isD (T := "dict") (by decide)) (by rfl) W.n_isinstance bt_isinstance (pa_cons (pv 1) (pa_cons (pe_bltn (v := .ty "dict") (by rfl) W.n_dict bt_dict rfl) pa_nil)))))))
        (pss_one ps_never)
        pss_nil)
      (pss_cons (ps_if (PW.pt (pw_or (pt_val (pe_callB (call_isD (T := "bool") (by decide)) (by rfl) W.n_isinstance bt_isinstance (pa_cons (pv 0) (pa_cons (pe_bltn (v := .ty "bool") (by rfl) W.n_bool bt_bool rfl) pa_nil)))) (pw_or1 (pt_val (pe_callB (call_isD (T := "bool") (by decide)) (by rfl) W.n_isinstance bt_isinstance (pa_cons (pv 1) (pa_cons (pe_bltn (v := .ty "bool") (by rfl) W.n_bool bt_bool rfl) pa_nil)))))))
        (pss_one (ps_ret (pe_and (pe_callB (call_isD (T := "bool") (by decide)) (by rfl) W.n_isinstance bt_isinstance (pa_cons (pv 0) (pa_cons (pe_bltn (v := .ty "bool") (by rfl) W.n_bool bt_bool rfl) pa_nil))) (pe_and (pe_callB (call_isD (T := "bool") (by decide)) (by rfl) W.n_isinstance bt_isinstance (pa_cons (pv 1) (pa_cons (pe_bltn (v := .ty "bool") (by rfl) W.n_bool bt_bool rfl) pa_nil))) (pe_one (pe_cmpR op_eq (pv 0) (pv 1) (nomark _)))))))
        pss_nil)
      (pss_cons (ps_if (PW.pt (pw_or (PW.pt (pw_and (pt_val (pe_callB (call_isD (T := "int") (by decide)) (by rfl) W.n_isinstance bt_isinstance (pa_cons (pv 0) (pa_cons (pe_bltn (v := .ty "int") (by rfl) W.n_int bt_int rfl) pa_nil)))) (pw_and1 (pt_val (pe_callB (call_isD (T := "int") (by decide)) (by rfl) W.n_isinstance bt_isinstance (pa_cons (pv 1) (pa_cons (pe_bltn (v := .ty "int") (by rfl) W.n_int bt_int rfl) pa_nil))))))) (pw_or1 (PW.pt (pw_and (pt_val (pe_callB (call_isD (T := "str") (by decide)) (by rfl) W.n_isinstance bt_isinstance (pa_cons (pv 0) (pa_cons (pe_bltn (v := .ty "str") (by rfl) W.n_str bt_str rfl) pa_nil)))) (pw_and1 (pt_val (pe_callB (call_isD (T := "str") (by decide)) (by rfl) W.n_isinstance bt_isinstance (pa_cons (pv 1) (pa_cons (pe_bltn (v := .ty "str") (by rfl) W.n_str bt_str rfl) pa_nil))))))))))
        (pss_one (ps_ret (pe_cmpR op_eq (pv 0) (pv 1) (nomark _))))
        pss_nil)
      (pss_one (ps_ret (pe_and (pe_cmpR op_isN (pv 0) pe_non (nomark _)) (pe_one (pe_cmpR op_isN (pv 1) pe_non (nomark _)))))))))), ?_⟩
  have q0 := q H (Fm.refl H)
  cases d with
  | tuple ds =>
    have ia' := ia
    have ib' := ib
    obtain ⟨pa, xa, rfl, ha, za, ja⟩ := Im.tupI ia
    obtain ⟨pb, xb, rfl, hb, zb, jb⟩ := Im.tupI ib
    refine ⟨_, rfl, _, _, rfl, ia', _, rfl, iteT ⟨_, rfl, _, _, rfl, ib', _, rfl, iteT ?_⟩⟩
    refine ⟨_, rfl, _, _, rfl, .inr ⟨_, ha, rfl⟩, _, rfl, _, _, rfl, .inr ⟨_, hb, rfl⟩, rfl, _, rfl, ?_⟩
    rw [ja.len, jb.len, decide_eq_true rfl]
    refine iteT ⟨_, rfl, _, _, rfl, .inr ⟨_, ha, rfl⟩, (xa.length : Nat), rfl, by omega, by omega, fun D nD => all_fm (K := K) (M := M0) walk_r0 (fun _ _ => trivial) (fun i H x H' y => by rw [y.1]; exact Fm.refl H) (small1000 (by omega)) nD (fun z => z) (fun _ => true) ?_ fun H4 bs f4 eD eb => ⟨D, bs, rfl, eD, ?_⟩⟩
    · rintro i y H1 H2 k' hi hf ⟨rfl, rfl⟩ hk
      have hi : i < xa.length := by simpa using hi
      obtain ⟨e, he, im1⟩ := ja.get (i := i) (x := xa[i]) (List.getElem?_eq_getElem hi)
      obtain ⟨x2, hx2, im2⟩ := jb.get' he
      have dep : e.depth < n := by
        have := depth_get (List.mem_of_getElem? he)
        rw [depth_tuple] at hd
        omega
      exact ⟨rfl, _, rfl, _, rfl, pa, _, _, _, rfl, rfl, hf.tu.seq ha, atI_nat (List.getElem?_eq_getElem hi), _, rfl, _, rfl, pb, _, _, _, rfl, rfl, hf.tu.seq hb, atI_nat hx2, _, _, e, rfl, hf.im im1, hf.im im2, dep, fun H5 f5 => hk H5 f5⟩
    · rw [eb]
      have : (List.range (((xa.length : Nat) : Int)).toNat).all (fun _ => true) = true := by simp
      rw [this]
      exact q H4 f4
  | none =>
    refine ⟨_, rfl, _, _, rfl, ia, _, rfl, iteF (iteF ⟨_, rfl, _, _, rfl, ia, _, rfl, iteF (iteF ⟨_, rfl, _, _, rfl, ia, _, rfl, iteF (iteF ⟨_, rfl, _, _, rfl, ia, _, rfl, iteF ⟨_, rfl, _, _, rfl, ib, _, rfl, iteF ?_⟩⟩)⟩)⟩)⟩
    refine ⟨_, rfl, _, _, rfl, ia, _, rfl, iteF (iteF ⟨_, rfl, _, _, rfl, ia, _, rfl, iteF (iteF ?_)⟩)⟩
    cases ia
    cases ib
    exact ⟨_, rfl, rfl, _, rfl, iteT ⟨_, rfl, rfl, q0⟩⟩
  | bool b =>
    refine ⟨_, rfl, _, _, rfl, ia, _, rfl, iteF (iteF ⟨_, rfl, _, _, rfl, ia, _, rfl, iteF (iteF ⟨_, rfl, _, _, rfl, ia, _, rfl, iteF (iteF ⟨_, rfl, _, _, rfl, ia, _, rfl, iteT (iteT ?_)⟩)⟩)⟩)⟩
    refine ⟨_, rfl, _, _, rfl, ia, _, rfl, iteT ⟨_, rfl, _, _, rfl, ib, _, rfl, iteT ?_⟩⟩
    cases ia
    cases ib
    refine ⟨_, rfl, _, rfl, rfl, ?_⟩
    rw [decide_eq_true rfl]
    exact q0
  | int i =>
    refine ⟨_, rfl, _, _, rfl, ia, _, rfl, iteF (iteF ⟨_, rfl, _, _, rfl, ia, _, rfl, iteF (iteF ⟨_, rfl, _, _, rfl, ia, _, rfl, iteF (iteF ⟨_, rfl, _, _, rfl, ia, _, rfl, iteF ⟨_, rfl, _, _, rfl, ib, _, rfl, iteF ?_⟩⟩)⟩)⟩)⟩
    refine ⟨_, rfl, _, _, rfl, ia, _, rfl, iteT ⟨_, rfl, _, _, rfl, ib, _, rfl, iteT (iteT ?_)⟩⟩
    cases ia
    cases ib
    refine ⟨_, rfl, _, rfl, rfl, ?_⟩
    rw [decide_eq_true rfl]
    exact q0
  | str x =>
    refine ⟨_, rfl, _, _, rfl, ia, _, rfl, iteF (iteF ⟨_, rfl, _, _, rfl, ia, _, rfl, iteF (iteF ⟨_, rfl, _, _, rfl, ia, _, rfl, iteF (iteF ⟨_, rfl, _, _, rfl, ia, _, rfl, iteF ⟨_, rfl, _, _, rfl, ib, _, rfl, iteF ?_⟩⟩)⟩)⟩)⟩
    refine ⟨_, rfl, _, _, rfl, ia, _, rfl, iteF (iteF ⟨_, rfl, _, _, rfl, ia, _, rfl, iteT ⟨_, rfl, _, _, rfl, ib, _, rfl, iteT ?_⟩⟩)⟩
    cases ia
    cases ib
    refine ⟨_, rfl, _, rfl, rfl, ?_⟩
    rw [decide_eq_true rfl]
    exact q0
  | list ds => cases ia
  | dict ds => cases ia
theorem ok_law_same (W : Wd K mg) : ∀ n : Nat, FnOk P w K mg base CX0 n W.a__law_same W.d__law_same ["a", "b"] (sp_law_same K n)
  | 0 => none_ok fun vs H Q E ⟨_, _, _, _, _, _, h, _⟩ => absurd h (Nat.not_lt_zero _)
  | n + 1 => ok_law_same1 W (ok_law_same W n)
theorem ok_law_stock (W : Wd K mg) : FnOk P w K mg base CX0 2 W.a__law_stock W.d__law_stock ["draws", "n", "most"] (sp_law_stock K) := by
  have nd := sc_law_stock.nd
  refine W.D__law_stock.F.ok sc_law_stock (fun vs H Q E h => ?_) (fun cdv A outer s H vs Q E hr h => ?_)
  · obtain ⟨d, l, row, n, m, rfl, _⟩ := h
    rfl
  obtain ⟨d, l, row, n, m, rfl, hn, hm, hd, q⟩ := h
  refine ⟨_, (pss_cons (ps_set (i := 3) nd rfl (Or.inl rfl) (pe_lst pa_nil))
      (pss_cons (ps_for PassesOwn.never rfl (pi_range1 rfl W.n_range (pa_cons (pv 1) pa_nil)) (pg_name (i := 4) nd rfl (Or.inl rfl))
        (pss_one (ps_expr (pe_bm PySem.F.plainAttrs_list PySem.F.slot_list_append PySem.F.type_list_append mt_append (pv 3) (pa_cons (pe_ix ix_list (pe_lst (pa_cons pe_int (pa_cons pe_int (pa_cons pe_int (pa_cons pe_int (pa_cons (pe_call (ok_law_take W) (hr.mono (by decide)) (by rfl) W.D__law_take.m W.D__law_take.F.kp W.D__law_take.b .nil pass0 (pa_cons (pv 0) (pa_cons (pe_op op_add (pv 2) pe_int) pa_nil))) (pa_cons (pv 2) pa_nil))))))) (pe_call (ok_law_take W) (hr.mono (by decide)) (by rfl) W.D__law_take.m W.D__law_take.F.kp W.D__law_take.b .nil pass0 (pa_cons (pv 0) (pa_cons pe_int pa_nil))) (fun _ _ => rfl)) pa_nil)))))
      (pss_one (ps_ret (pe_callTy call_tuple_of (by rfl) W.n_tuple bt_tuple (pa_cons (pe_lc (own := [("entry", 5)]) rfl nd (pi_list (pv 3)) (blkOk_by (N := N_law_stock) (sc := defScope s_law_stock) (own := [("entry", 5)]) (by decide +kernel)) (fun _ _ _ _ _ => (pg_name (i := 5) nd rfl (Or.inl rfl))) (fun _ _ _ _ _ => pts_nil) (fun _ _ _ _ _ => (pe_callB (call_min2 rfl) (by rfl) W.n_min bt_min (pa_cons (pv 2) (pa_cons (pv 5) pa_nil))))) pa_nil)))))), ?_⟩
  refine ⟨Nat.zero_le _, fun p np => ?_⟩
  have npd := hd.nd np
  have npl := hd.nl np
  refine ⟨_, rfl, (n : Nat), rfl, by omega, by omega, for_range (lo := 0) (n := n) (fun i σ H1 => ∃ y4 y5, σ = [some (.ref d), some (.int (n : Nat)), some (.int m), some (.ref p), y4, y5] ∧ Fm (Md d) H H1 ∧ Dr d l row H1 ∧ ∃ ys : List Int, H1 p = some (.lst (ys.map V.int)) ∧ ys.length = i ∧ ∀ y ∈ ys, 0 ≤ y)
    ⟨none, none, rfl, Fm.new np, hd.new np, [], upd_same, rfl, fun y hy => by simp at hy⟩ ?_ ?_⟩
  · rintro i σ H1 hi ⟨y4, y5, rfl, f1, d1, ys, hp, hl, h0⟩
    refine ⟨_, rfl, .inl ⟨rfl, _, SqL.of hp⟩, ?_⟩
    refine ⟨_, rfl, _, rfl, _, _, rfl, rfl, d, l, row, m + 1, rfl, by omega, d1, fun v H2 f2 d2 ⟨t, ev, ht0, ht1⟩ => ?_⟩
    subst ev
    refine ⟨_, rfl, (by show 6 ≤ sizeLine; decide), fun r nr => ?_⟩
    have d3 := d2.new (o := .lst [.int 0, .int 0, .int 1, .int 2, .int t, .int m]) nr
    refine ⟨_, rfl, d, l, row, 6, rfl, by decide, d3, fun v H4 f4 d4 ⟨c, ev, hc0, hc1⟩ => ?_⟩
    subst ev
    have hr4 := f4.kp r _ (d2.nd nr) upd_same
    obtain ⟨y, hy, ey⟩ := pick (ys := [0, 0, 1, 2, t, m]) hc0 hc1
    have hy0 : 0 ≤ y := by
      simp only [List.mem_cons, List.not_mem_nil, or_false] at hy
      omega
    refine ⟨r, _, _, _, rfl, rfl, SqL.of hr4, ey, ?_⟩
    have f4' : Fm (Md d) H1 H4 := (f2.newD nr).trans f4
    have hp4 := f4'.kp p _ npd hp
    refine ⟨p, _, _, rfl, rfl, hp4, Nat.lt_of_le_of_lt (by rw [List.length_map]; omega : _ ≤ 6) (by decide), ?_⟩
    refine ⟨_, _, rfl, (f1.trans f4').mutL np hp4, d4.upd npd npl, ys ++ [y], by rw [upd_same, List.map_append]; rfl, by rw [List.length_append, List.length_singleton, hl], fun z hz => ?_⟩
    rcases List.mem_append.mp hz with hz | hz
    · exact h0 z hz
    · rw [List.mem_singleton.mp hz]
      exact hy0
  · rintro σ H1 ⟨y4, y5, rfl, f1, d1, ys, hp, hl, h0⟩
    refine ⟨_, rfl, p, rfl, ⟨_, SqL.of hp⟩, fun D nD => lc_fm0 (M := M0) (walk_list (xs := ys.map V.int)) (fun H f => f.seqL (fun z => z) (SqL.of hp)) (fun i H x H' y => by rw [y.1]; exact Fm.refl H) (small1000 (by rw [List.length_map]; omega)) nD (fun z => z)
      (fun i y _ => ∃ z : Int, y = .int z ∧ 0 ≤ z ∧ z ≤ m) (fun _ _ _ _ _ h => h) ?_ fun H2 zs f2 eD el hz => ?_⟩
    · rintro i x H2 H3 k hi hf ⟨rfl, hx⟩ hk
      rw [List.getElem?_map] at hx
      cases e : ys[i]? with
      | none => rw [e] at hx; cases hx
      | some y =>
        rw [e] at hx
        have hx : V.int y = x := Option.some.inj hx
        subst hx
        have hy0 := h0 y (List.mem_of_getElem? e)
        refine ⟨rfl, _, rfl, _, rfl, m, y, rfl, hk _ _ (Fm.refl _) ⟨_, rfl, ?_, ?_⟩⟩
        · split <;> omega
        · split <;> omega
    · obtain ⟨st, rfl⟩ : ∃ st : List Int, zs = st.map V.int := by
        refine ⟨zs.map fun z => match z with | .int i => i | _ => 0, ?_⟩
        rw [List.map_map]
        have : zs = zs.map id := by simp
        conv => lhs; rw [this]
        apply List.map_congr_left
        intro z hz'
        obtain ⟨j, hj⟩ := List.mem_iff_getElem?.mp hz'
        obtain ⟨i, rfl, _⟩ := hz j z hj
        rfl
      rw [List.length_map, List.length_map] at el
      refine ⟨D, _, rfl, .inl ⟨SqL.of eD, fun r nr => ?_⟩⟩
      refine q _ _ ((f1.trans f2.up).newD nr) ((d1.keep f2).new nr) ⟨st, stD_im upd_same (by omega), by omega, fun x hx => ?_⟩
      obtain ⟨j, hj⟩ := List.mem_iff_getElem?.mp hx
      obtain ⟨z, ez, h1, h2⟩ := hz j (.int x) (by rw [List.getElem?_map, hj]; rfl)
      cases ez
      exact ⟨h1, h2⟩
theorem str_ok {x : Str} (h : decide (x.length ≤ 1000) && PyData.strOk x = true) : x.length ≤ 1000 ∧ PyData.strOk x = true := by
  simpa using h
theorem ok_law_nested (W : Wd K mg) : FnOk P w K mg base CX0 1 W.a__law_nested W.d__law_nested ["run", "depth"] (sp_law_nested K) := by
  have nd := sc_law_nested.nd
  refine W.D__law_nested.F.ok sc_law_nested (fun vs H Q E h => ?_) (fun cdv A outer s H vs Q E hr h => ?_)
  · obtain ⟨v, d, n, rfl, _⟩ := h
    rfl
  obtain ⟨v, d, n, rfl, im, hn, q⟩ := h
  refine ⟨_, (pss_cons (ps_for PassesOwn.never rfl (pi_range1 rfl W.n_range (pa_cons (pv 1) pa_nil)) (pg_name (i := 2) nd rfl (Or.inl rfl))
        (pss_one (ps_set (i := 0) nd rfl (Or.inl rfl) (pe_tup (pa_cons (pe_tup (pa_cons pe_str (pa_cons pe_int (pa_cons (pv 0) pa_nil)))) pa_nil)))))
      (pss_one (ps_ret (pv 0)))), ?_⟩
  have hrep := str_ok (x := "rep") (by decide +kernel)
  refine ⟨_, rfl, (n : Nat), rfl, by omega, by omega, for_range (lo := 0) (n := n) (fun i σ H1 => ∃ v2 y2, σ = [some v2, some (.int (n : Nat)), y2] ∧ Fm M0 H H1 ∧ Im K H1 v2 (nestD d i)) ⟨v, none, rfl, Fm.refl H, im⟩ ?_ ?_⟩
  · rintro i σ H1 hi ⟨v2, y2, rfl, f1, i1⟩
    refine ⟨_, rfl, (by show 3 ≤ sizeLine; decide), fun p np => ⟨(by show 1 ≤ sizeLine; decide), fun r nr => ?_⟩⟩
    have f2 : Fm M0 H1 (upd H1 p (.tup [.str "rep", .int 2, v2])) := Fm.new np
    have f3 : Fm M0 _ (upd (upd H1 p (.tup [.str "rep", .int 2, v2])) r (.tup [.ref p])) := Fm.new nr
    refine ⟨.ref r, _, rfl, (f1.trans f2).trans f3, .tup (SqT.of upd_same) (by show 1 ≤ 1000; decide) (.cons (f3.im (.tup (SqT.of upd_same) (by show 3 ≤ 1000; decide) (.cons (.str hrep.1 hrep.2) (.cons (.int 2) (.cons (f2.im i1) .nil))))) .nil)⟩
  · rintro σ H1 ⟨v2, y2, rfl, f1, i1⟩
    exact ⟨_, rfl, q _ _ f1 i1⟩
end

end Mt

namespace Mt
open PySem PySem.Spec PyProof.Rows L2
/-! the law's names -/
open TL
/-- the name that is drawn at place k -/
def Nm (k : Nat) (s : Str) : Prop := ∃ c r, tl s = c :: (r ++ [97 + k]) ∧ c ∈ tl smallS ∧ (∀ x ∈ r, sgn x = true) ∧ (r.length = 0 ∨ r.length = 1 ∨ r.length = 2 ∨ r.length = 9)
def sp_law_named (K : PySem.W.Frag) : Sp := fun vs H Q _ => ∃ (d l : Addr) (row : List Int), vs = [.ref d] ∧
  drawn d l row H (fun v H' => ∃ (p : Addr) (names : List Str), v = .ref p ∧ H' p = some (.lst (names.map V.str)) ∧ names.length = 14 ∧ ∀ (k : Nat) s, names[k]? = some s → Nm k s) Q
theorem pickN {ys : List Nat} {c : Int} (h0 : 0 ≤ c) (h : c < (ys.length : Nat)) : ∃ y ∈ ys, atI ys c = some y := by
  obtain ⟨j, rfl⟩ : ∃ j : Nat, c = (j : Nat) := ⟨c.toNat, by omega⟩
  have hj : j < ys.length := by omega
  exact ⟨ys[j], List.getElem_mem hj, atI_nat (List.getElem?_eq_getElem hj)⟩
theorem joinL_nil : ∀ ps : List (List Nat), joinL [] ps = ps.flatten
  | [] => rfl
  | [p] => by simp [joinL]
  | p :: q :: r => by
    have := joinL_nil (q :: r)
    show p ++ ([] ++ joinL [] (q :: r)) = _
    rw [this]
    rfl
theorem tl_one (c : Nat) : tl ⟨#[c]⟩ = [c] := rfl
theorem tl_join_ones (cs : List Nat) : tl (Txt.join "" (cs.map fun c => (⟨#[c]⟩ : Str))) = cs := by
  rw [join_eq, tl_join]
  have : tl (Str.ofString "") = [] := by decide +kernel
  rw [this, joinL_nil, List.map_map]
  induction cs with
  | nil => rfl
  | cons c r ih =>
    simp only [List.map_cons, List.flatten_cons] at ih ⊢
    rw [ih]
    rfl
theorem len_tl (x : Str) : x.length = (tl x).length := by simp [Str.length, tl]
abbrev alnum : Str := smallS ++ digitS
theorem alnum_len : (tl alnum).length = 36 := by decide +kernel
theorem alnum_ok : (tl alnum).all sgn = true := by decide +kernel
theorem small_len : (tl smallS).length = 26 := by decide +kernel
theorem small_sgn : (tl smallS).all sgn = true := by decide +kernel
theorem last_len : tl (Str.ofString "abcdefghijklmn") = (List.range 14).map (97 + ·) := by decide +kernel
theorem strs_of {zs : List V} {n : Nat} (hl : zs.length = n) (h : ∀ (i : Nat) y, zs[i]? = some y → ∃ c, y = V.str ⟨#[c]⟩ ∧ sgn c = true) : ∃ cs : List Nat, zs = (cs.map fun c => (⟨#[c]⟩ : Str)).map V.str ∧ cs.length = n ∧ ∀ c ∈ cs, sgn c = true := by
  subst hl
  induction zs with
  | nil => exact ⟨[], rfl, rfl, fun c hc => by simp at hc⟩
  | cons z r ih =>
    obtain ⟨cs, e, el, hc⟩ := ih fun i y hy => h (i + 1) y hy
    obtain ⟨c, ez, es⟩ := h 0 z rfl
    refine ⟨c :: cs, by rw [e, ez]; rfl, by rw [List.length_cons, el, List.length_cons], fun x hx => ?_⟩
    rcases List.mem_cons.mp hx with rfl | hx
    · exact es
    · exact hc x hx
theorem ones_sum (cs : List Nat) : ((cs.map fun c => (⟨#[c]⟩ : Str)).map fun x => x.length).sum = cs.length := by
  induction cs with
  | nil => rfl
  | cons c r ih =>
    simp only [List.map_cons, List.sum_cons, List.length_cons] at ih ⊢
    rw [ih]
    show 1 + r.length = r.length + 1
    omega
section
variable {P : Program} {w : World} {K : PySem.W.Frag} {mg : Str → Option Value} {base : Heap}
theorem ok_law_named (W : Wd K mg) : FnOk P w K mg base CX0 2 W.a__law_named W.d__law_named ["draws"] (sp_law_named K) := by
  have nd := sc_law_named.nd
  refine W.D__law_named.F.ok sc_law_named (fun vs H Q E h => ?_) (fun cdv A outer s H vs Q E hr h => ?_)
  · obtain ⟨d, l, row, rfl, _⟩ := h
    rfl
  obtain ⟨d, l, row, rfl, hd, q⟩ := h
  refine ⟨_, (pss_cons (ps_set (i := 1) nd rfl (Or.inr rfl) pe_str)
      (pss_cons (ps_set (i := 2) nd rfl (Or.inl rfl) (pe_lst pa_nil))
      (pss_cons (ps_for PassesOwn.never rfl (pi_range1 rfl W.n_range (pa_cons pe_int pa_nil)) (pg_name (i := 3) nd rfl (Or.inl rfl))
        (pss_cons (ps_set (i := 4) nd rfl (Or.inl rfl) (pe_ix ix_list (pe_lst (pa_cons pe_int (pa_cons pe_int (pa_cons pe_int (pa_cons pe_int (pa_cons pe_int pa_nil)))))) (pe_call (ok_law_take W) (hr.mono (by decide)) (by rfl) W.D__law_take.m W.D__law_take.F.kp W.D__law_take.b .nil pass0 (pa_cons (pv 0) (pa_cons pe_int pa_nil))) (fun _ _ => rfl)))
        (pss_cons (ps_set (i := 5) nd rfl (Or.inl rfl) (pe_join pe_str (pe_lc (own := [("n", 6)]) rfl nd (pi_range1 rfl W.n_range (pa_cons (pv 4) pa_nil)) (blkOk_by (N := N_law_named) (sc := defScope s_law_named) (own := [("n", 6)]) (by decide +kernel)) (fun _ _ _ _ _ => (pg_name (i := 6) nd rfl (Or.inl rfl))) (fun _ _ _ _ _ => pts_nil) (fun _ _ _ _ _ => (pe_ix ix_str (pe_op op_add_str (pv 1) pe_str) (pe_call (ok_law_take W) (hr.mono (by decide)) (by rfl) W.D__law_take.m W.D__law_take.F.kp W.D__law_take.b .nil pass0 (pa_cons (pv 0) (pa_cons pe_int pa_nil))) (fun _ _ => rfl))))))
        (pss_one (ps_expr (pe_bm PySem.F.plainAttrs_list PySem.F.slot_list_append PySem.F.type_list_append mt_append (pv 2) (pa_cons (pe_op op_add_str (pe_op op_add_str (pe_ix ix_str (pv 1) (pe_call (ok_law_take W) (hr.mono (by decide)) (by rfl) W.D__law_take.m W.D__law_take.F.kp W.D__law_take.b .nil pass0 (pa_cons (pv 0) (pa_cons pe_int pa_nil))) (fun _ _ => rfl)) (pv 5)) (pe_ix ix_str pe_str (pv 3) (fun _ _ => rfl))) pa_nil)))))))
      (pss_one (ps_ret (pv 2)))))), ?_⟩
  refine ⟨Nat.zero_le _, fun p np => ?_⟩
  have npd := hd.nd np
  have npl := hd.nl np
  refine ⟨14, rfl, by decide, by decide, for_range (lo := 0) (n := 14) (fun i σ H1 => ∃ y3 y4 y5 y6, σ = [some (.ref d), some (.str smallS), some (.ref p), y3, y4, y5, y6] ∧ Fm (Md d) H H1 ∧ Dr d l row H1 ∧ ∃ names : List Str, H1 p = some (.lst (names.map V.str)) ∧ names.length = i ∧ ∀ (k : Nat) s, names[k]? = some s → Nm k s)
    ⟨none, none, none, none, rfl, Fm.new np, hd.new np, [], upd_same, rfl, fun k s hs => by simp at hs⟩ ?_ ?_⟩
  · rintro i σ H1 hi ⟨y3, y4, y5, y6, rfl, f1, d1, names, hp, hl, hn⟩
    have e0 : (0 : Int) + (i : Nat) = ((i : Nat) : Int) := by omega
    rw [e0]
    -- size
    refine ⟨(by show 5 ≤ sizeLine; decide), fun r nr => ?_⟩
    have d2 := d1.new (o := .lst [.int 0, .int 0, .int 1, .int 2, .int 9]) nr
    refine ⟨_, rfl, d, l, row, 5, rfl, by decide, d2, fun v H3 f3 d3 ⟨c, ev, hc0, hc1⟩ => ?_⟩
    subst ev
    have hr3 := f3.kp r _ (d1.nd nr) upd_same
    obtain ⟨y, hy, ey⟩ := pick (ys := [0, 0, 1, 2, 9]) hc0 hc1
    refine ⟨r, _, _, _, rfl, rfl, SqL.of hr3, ey, ?_⟩
    have f3' : Fm (Md d) H1 H3 := (Fm.up (Fm.new nr)).trans f3
    obtain ⟨m, hm, hmm⟩ : ∃ m : Nat, y = (m : Nat) ∧ (m = 0 ∨ m = 1 ∨ m = 2 ∨ m = 9) := by
      simp only [List.mem_cons, List.not_mem_nil, or_false] at hy
      exact ⟨y.toNat, by omega, by omega⟩
    subst hm
    -- rest
    refine ⟨⟨_, rfl⟩, _, rfl, (m : Nat), rfl, by omega, by omega, fun D nD => lc_fm (M := Md d) walk_r0 (fun _ _ => trivial) (fun i H x H' y => by rw [y.1]; exact Fm.refl H) (small1000 (by omega)) nD (d3.nd nD)
      (fun _ y _ => ∃ c, y = V.str ⟨#[c]⟩ ∧ sgn c = true) (Dr d l row) (fun _ _ _ _ _ h => h) d3 (fun H4 o dd => ?upd) ?_ fun H4 zs f4 eD el hz d4 => ?_⟩
    case upd => exact dd.upd (d3.nd nD) (d3.nl nD)
    · rintro j y H4 H5 k hj hf dj ⟨rfl, rfl⟩ hk
      refine ⟨rfl, _, rfl, smallS, digitS, rfl, rfl, by decide +kernel, _, rfl, d, l, row, 36, rfl, by decide, dj, fun v H6 f6 d6 ⟨c, ev, hc0, hc1⟩ => ?_⟩
      subst ev
      obtain ⟨x, hx, ex⟩ := pickN (ys := tl alnum) hc0 (by rw [alnum_len]; exact hc1)
      exact ⟨alnum, c, x, rfl, rfl, by decide +kernel, ex, hk _ _ f6 ⟨x, rfl, List.all_eq_true.mp alnum_ok x hx⟩ d6⟩
    · obtain ⟨cs, rfl, hcl, hcs⟩ := strs_of el hz
      refine ⟨_, D, _, rfl, rfl, .inl (SqL.of eD), ?_, ?_⟩
      · rw [ones_sum, List.length_map, hcl]
        exact Nat.le_trans (by show m + m * 0 ≤ 9; omega) (by decide)
      have f4' : Fm (Md d) H1 H4 := f3'.trans f4
      have hp4 := f4'.kp p _ npd hp
      have erest := tl_join_ones cs
      generalize Txt.join (Str.ofString "") (cs.map fun c => (⟨#[c]⟩ : Str)) = rest at erest
      -- names.append(..)
      refine ⟨_, rfl, .inl ⟨rfl, _, SqL.of hp4⟩, ?_⟩
      refine ⟨_, rfl, _, rfl, d, l, row, 26, rfl, by decide, d4, fun v H6 f6 d6 ⟨c, ev, hc0, hc1⟩ => ?_⟩
      subst ev
      obtain ⟨x, hx, ex⟩ := pickN (ys := tl smallS) hc0 (by rw [small_len]; exact hc1)
      have elast : atI (tl (Str.ofString "abcdefghijklmn")) ((i : Nat) : Int) = some (97 + i) := atI_nat (by rw [last_len, List.getElem?_map, List.getElem?_range hi]; rfl)
      have lrest : rest.length ≤ 9 := by rw [len_tl, erest]; omega
      refine ⟨smallS, c, x, rfl, rfl, by decide +kernel, ex, _, rfl, _, _, rfl, rfl, Nat.le_trans (by show 1 + rest.length ≤ 10; omega) (by decide), ?_⟩
      refine ⟨_, rfl, _, _, _, rfl, rfl, by decide +kernel, elast, _, _, rfl, rfl, ?_, ?_⟩
      · refine Nat.le_trans ?_ (show 100 ≤ sizeLine by decide)
        rw [len_tl, tl_append, tl_one, erest, len_tl]
        show ([x] ++ cs).length + 1 ≤ 100
        rw [List.length_append, List.length_singleton]
        omega
      have f6' : Fm (Md d) H1 H6 := f4'.trans f6
      have hp6 := f6'.kp p _ npd hp
      refine ⟨p, _, _, rfl, rfl, hp6, Nat.lt_of_le_of_lt (by rw [List.length_map]; omega : _ ≤ 14) (by decide), ?_⟩
      refine ⟨_, _, _, _, rfl, (f1.trans f6').mutL np hp6, d6.upd npd npl, names ++ [⟨#[x]⟩ ++ rest ++ ⟨#[97 + i]⟩], by rw [upd_same, List.map_append]; rfl, by rw [List.length_append, List.length_singleton, hl], fun k s hs => ?_⟩
      by_cases hk : k < names.length
      · rw [List.getElem?_append_left hk] at hs
        exact hn k s hs
      · rw [List.getElem?_append_right (by omega)] at hs
        have : k - names.length = 0 := by
          cases q : k - names.length with
          | zero => rfl
          | succ k => rw [q] at hs; simp at hs
        rw [this] at hs
        have hs : s = ⟨#[x]⟩ ++ rest ++ ⟨#[97 + i]⟩ := by simpa using hs.symm
        have ek : k = i := by omega
        subst ek
        refine ⟨x, cs, ?_, hx, hcs, by omega⟩
        rw [hs, tl_append, tl_append, tl_one, tl_one, erest]
        simp
  · rintro σ H1 ⟨y3, y4, y5, y6, rfl, f1, d1, names, hp, hl, hn⟩
    exact ⟨_, rfl, q _ _ f1 d1 ⟨p, names, rfl, hp, hl, hn⟩⟩
end

end Mt

namespace Mt
open PySem PySem.Spec PyProof.Rows L2
/-! the law's book -/
open TL
/-- a stock that was drawn -/
def StOk (n : Nat) (m : Int) (st : List Int) : Prop := st.length = n ∧ ∀ x ∈ st, 0 ≤ x ∧ x ≤ m
/-- a move that was drawn -/
structure MvOk (n : Nat) (m : Int) (k : Nat) (v : Mv) : Prop where
  name : Nm (6 + k) v.name
  take : StOk n m v.take
  least : StOk n m v.least
  most : StOk n m v.most
  le : ∀ (i : Nat) a b, v.least[i]? = some a → v.most[i]? = some b → a ≤ b
/-- a book that was drawn -/
structure GB (m : Int) (b : Bk) : Prop where
  k1 : 1 ≤ b.kinds.length
  k6 : b.kinds.length ≤ 6
  m8 : b.moves.length ≤ 8
  kn : ∀ (k : Nat) s, b.kinds[k]? = some s → Nm k s
  mv : ∀ (k : Nat) v, b.moves[k]? = some v → MvOk b.kinds.length m k v
def sp_law_book (K : PySem.W.Frag) : Sp := fun vs H Q _ => ∃ (d l : Addr) (row : List Int) (m : Int), vs = [.ref d, .int m] ∧ 0 ≤ m ∧ drawn d l row H (fun v H' => ∃ bk : Bk, Im K H' v (bkD bk) ∧ GB m bk) Q
theorem sgn_small {x : Nat} (h : sgn x = true) : x < 128 := by
  have : (tl alnum).all (· < 128) = true := by decide +kernel
  have hx : x ∈ tl alnum := by
    unfold alnum
    rw [tl_append]
    simpa [sgn, List.mem_append] using h
  simpa using List.all_eq_true.mp this x hx
theorem Nm.ok {k : Nat} {s : Str} (h : Nm k s) (hk : k < 14) : s.length ≤ 1000 ∧ PyData.strOk s = true := by
  obtain ⟨c, r, e, hc, hr, hl⟩ := h
  refine ⟨by rw [len_tl, e, List.length_cons, List.length_append, List.length_singleton]; omega, ?_⟩
  unfold PyData.strOk
  rw [← Array.all_toList]
  show (tl s).all _ = true
  rw [e, List.all_eq_true]
  intro x hx
  have : x < 128 := by
    rcases List.mem_cons.mp hx with rfl | hx
    · exact sgn_small (List.all_eq_true.mp small_sgn _ hc)
    · rcases List.mem_append.mp hx with hx | hx
      · exact sgn_small (hr x hx)
      · rw [List.mem_singleton.mp hx]; omega
  simp; omega
theorem names_im {K : PySem.W.Frag} {H : Hp} : ∀ {ns : List Str}, (∀ s ∈ ns, s.length ≤ 1000 ∧ PyData.strOk s = true) → ImA K H (ns.map V.str) (ns.map PyData.str)
  | [], _ => .nil
  | s :: r, h => .cons (.str (h s List.mem_cons_self).1 (h s List.mem_cons_self).2) (names_im fun x hx => h x (List.mem_cons_of_mem _ hx))
theorem ImA.snoc {K : PySem.W.Frag} {H : Hp} {xs : List V} {ds : List PyData} {x : V} {d : PyData} (h : ImA K H xs ds) (hx : Im K H x d) : ImA K H (xs ++ [x]) (ds ++ [d]) := h.append (.cons hx .nil)
section
variable {P : Program} {w : World} {K : PySem.W.Frag} {mg : Str → Option Value} {base : Heap}
theorem ok_law_book (W : Wd K mg) : FnOk P w K mg base CX0 3 W.a__law_book W.d__law_book ["draws", "most"] (sp_law_book K) := by
  have nd := sc_law_book.nd
  refine W.D__law_book.F.ok sc_law_book (fun vs H Q E h => ?_) (fun cdv A outer s H vs Q E hr h => ?_)
  · obtain ⟨d, l, row, m, rfl, _⟩ := h
    rfl
  obtain ⟨d, l, row, m, rfl, hm, hd, q⟩ := h
  refine ⟨_, (pss_cons (ps_set (i := 2) nd rfl (Or.inl rfl) (pe_call (ok_law_named W) (hr.mono (by decide)) (by rfl) W.D__law_named.m W.D__law_named.F.kp W.D__law_named.b .nil pass0 (pa_cons (pv 0) pa_nil)))
      (pss_cons (ps_set (i := 3) nd rfl (Or.inl rfl) (pe_op op_add pe_int (pe_call (ok_law_take W) (hr.mono (by decide)) (by rfl) W.D__law_take.m W.D__law_take.F.kp W.D__law_take.b .nil pass0 (pa_cons (pv 0) (pa_cons pe_int pa_nil)))))
      (pss_cons (ps_set (i := 4) nd rfl (Or.inl rfl) (pe_lst pa_nil))
      (pss_cons (ps_for PassesOwn.never rfl (pi_range1 rfl W.n_range (pa_cons (pe_call (ok_law_take W) (hr.mono (by decide)) (by rfl) W.D__law_take.m W.D__law_take.F.kp W.D__law_take.b .nil pass0 (pa_cons (pv 0) (pa_cons pe_int pa_nil))) pa_nil)) (pg_name (i := 5) nd rfl (Or.inl rfl))
        (pss_cons (ps_set (i := 6) nd rfl (Or.inl rfl) (pe_call (ok_law_stock W) (hr.mono (by decide)) (by rfl) W.D__law_stock.m W.D__law_stock.F.kp W.D__law_stock.b .nil pass0 (pa_cons (pv 0) (pa_cons (pv 3) (pa_cons (pv 1) pa_nil)))))
        (pss_cons (ps_set (i := 7) nd rfl (Or.inl rfl) (pe_call (ok_law_stock W) (hr.mono (by decide)) (by rfl) W.D__law_stock.m W.D__law_stock.F.kp W.D__law_stock.b .nil pass0 (pa_cons (pv 0) (pa_cons (pv 3) (pa_cons (pv 1) pa_nil)))))
        (pss_cons (ps_set (i := 8) nd rfl (Or.inl rfl) (pv 7))
        (C8.pss_cut (ps_if (pt_cmpR op_eq (pe_call (ok_law_take W) (hr.mono (by decide)) (by rfl) W.D__law_take.m W.D__law_take.F.kp W.D__law_take.b .nil pass0 (pa_cons (pv 0) (pa_cons pe_int pa_nil))) pe_int (nomark _))
          (pss_one (ps_set (i := 8) nd rfl (Or.inl rfl) (pe_callTy call_tuple_of (by rfl) W.n_tuple bt_tuple (pa_cons (pe_lc (own := [("entry", 9)]) rfl nd (pi_tup (pv 7)) (blkOk_by (N := N_law_book) (sc := defScope s_law_book) (own := [("entry", 9)]) (by decide +kernel)) (fun _ _ _ _ _ => (pg_name (i := 9) nd rfl (Or.inl rfl))) (fun _ _ _ _ _ => pts_nil) (fun _ _ _ _ _ => (pe_call (ok_law_take W) (hr.mono (by decide)) (by rfl) W.D__law_take.m W.D__law_take.F.kp W.D__law_take.b .nil pass0 (pa_cons (pv 0) (pa_cons (pe_op op_add (pv 9) pe_int) pa_nil))))) pa_nil))))
          pss_nil)
        (pss_one (ps_expr (pe_bm PySem.F.plainAttrs_list PySem.F.slot_list_append PySem.F.type_list_append mt_append (pv 4) (pa_cons (pe_tup (pa_cons (pe_ix ix_list (pv 2) (pe_op op_add pe_int (pv 5)) (fun _ _ => rfl)) (pa_cons (pv 6) (pa_cons (pv 8) (pa_cons (pv 7) pa_nil))))) pa_nil)))))))))
      (pss_one (ps_ret (pe_tup (pa_cons (pe_callTy call_tuple_of (by rfl) W.n_tuple bt_tuple (pa_cons (pe_slice sl_list (pv 2) po_none (po_some (pv 3))) pa_nil)) (pa_cons (pe_callTy call_tuple_of (by rfl) W.n_tuple bt_tuple (pa_cons (pv 4) pa_nil)) pa_nil))))))))), ?_⟩
  -- names, n
  refine ⟨_, rfl, d, l, row, rfl, hd, fun v H1 f1 d1 ⟨pn, names, ev, hpn, hnl, hnm⟩ => ?_⟩
  subst ev
  refine ⟨_, rfl, d, l, row, 6, rfl, by decide, d1, fun v H2 f2 d2 ⟨c, ev, hc0, hc1⟩ => ?_⟩
  subst ev
  refine ⟨_, _, rfl, rfl, ?_⟩
  obtain ⟨n, en, hn1, hn6⟩ : ∃ n : Nat, 1 + c = (n : Nat) ∧ 1 ≤ n ∧ n ≤ 6 := ⟨(1 + c).toNat, by omega, by omega, by omega⟩
  have npnd : ∀ {H : Hp} {xs : List V}, H pn = some (.lst xs) → Dr d l row H → pn ≠ d := fun h dd => by
    obtain ⟨k, e⟩ := dd.at_
    exact ne_of h e (by intro z; cases z)
  have hpn2 := f2.kp pn _ (npnd hpn d1) hpn
  have hpd := npnd hpn d1
  simp only [en]
  -- moves = []
  refine ⟨Nat.zero_le _, fun p2 np2 => ?_⟩
  have d3 := d2.new (o := .lst []) np2
  have p2d := d2.nd np2
  have p2l := d2.nl np2
  have p2n : p2 ≠ pn := fun z => by rw [z, hpn2] at np2; cases np2
  refine ⟨_, rfl, d, l, row, 9, rfl, by decide, d3, fun v H4 f4 d4 ⟨c9, ev, hc90, hc91⟩ => ?_⟩
  subst ev
  obtain ⟨t, rfl⟩ : ∃ t : Nat, c9 = (t : Nat) := ⟨c9.toNat, by omega⟩
  have f24 : Fm (Md d) H2 H4 := (Fm.up (Fm.new np2)).trans f4
  have hp24 := f4.kp p2 _ p2d upd_same
  refine ⟨(t : Nat), rfl, by omega, by omega, for_range (lo := 0) (n := t) (fun i σ H5 => ∃ y5 y6 y7 y8 y9, σ = [some (.ref d), some (.int m), some (.ref pn), some (.int (n : Nat)), some (.ref p2), y5, y6, y7, y8, y9] ∧ Fm (Md d) H2 H5 ∧ Dr d l row H5 ∧
      ∃ (xs : List V) (ms : List Mv), H5 p2 = some (.lst xs) ∧ ImA K H5 xs (ms.map mvD) ∧ ms.length = i ∧ ∀ (k : Nat) v, ms[k]? = some v → MvOk n m k v)
    ⟨none, none, none, none, none, rfl, f24, d4, [], [], hp24, .nil, rfl, fun k v h => by simp at h⟩ ?_ ?_⟩
  · rintro i σ H5 hi ⟨y5, y6, y7, y8, y9, rfl, f5, d5, xs, ms, hp5, him, hml, hmo⟩
    have e0 : (0 : Int) + (i : Nat) = ((i : Nat) : Int) := by omega
    rw [e0]
    refine ⟨_, rfl, _, rfl, _, rfl, d, l, row, n, m, rfl, hn6, hm, d5, fun v6 H6 f6 d6 ⟨s1, i1, hs1, ho1⟩ => ?_⟩
    refine ⟨_, rfl, _, rfl, _, rfl, d, l, row, n, m, rfl, hn6, hm, d6, fun v7 H7 f7 d7 ⟨s2, i2, hs2, ho2⟩ => ?_⟩
    -- low = high, or drawn below
    refine ⟨_, rfl, ?_⟩
    have f57 := f6.trans f7
    refine ⟨fun σ H8 => ∃ v8 y9 s3, σ = [some (.ref d), some (.int m), some (.ref pn), some (.int (n : Nat)), some (.ref p2), some (.int (i : Nat)), some v6, some v7, some v8, y9] ∧ Fm (Md d) H5 H8 ∧ Dr d l row H8 ∧ Im K H8 v6 (stD s1) ∧ Im K H8 v7 (stD s2) ∧ Im K H8 v8 (stD s3) ∧ StOk n m s3 ∧ ∀ (j : Nat) a b, s3[j]? = some a → s2[j]? = some b → a ≤ b, ?_, ?_⟩
    · refine ⟨_, rfl, d, l, row, 3, rfl, by decide, d7, fun v H8 f8 d8 ⟨c3, ev, _, _⟩ => ?_⟩
      subst ev
      have f58 := f57.trans f8
      refine ⟨rfl, _, rfl, ite2 (fun _ => ?_) (fun _ => ?_)⟩
      · obtain ⟨p7, x7, rfl, h7, z7, j7⟩ := Im.tupI (i2.mono f8.tu)
        refine ⟨_, rfl, p7, rfl, ⟨_, h7⟩, fun D nD => lc_fm (M := Md d) (walk_tup (xs := x7)) (fun H f => f.tu.seq h7) (fun i H x H' y => by rw [y.1]; exact Fm.refl H) (small1000 z7) nD (d8.nd nD)
          (fun j y _ => ∃ a b : Int, s2[j]? = some b ∧ y = .int a ∧ 0 ≤ a ∧ a ≤ b) (Dr d l row) (fun _ _ _ _ _ h => h) d8 (fun H9 o dd => dd.upd (d8.nd nD) (d8.nl nD)) ?_ fun H9 zs f9 eD el hz d9 => ?_⟩
        · rintro j y H9 H10 k hj hf dj ⟨rfl, hy⟩ hk
          obtain ⟨e, he, ie⟩ := j7.get hy
          rw [List.getElem?_map] at he
          cases eb : s2[j]? with
          | none => rw [eb] at he; cases he
          | some b =>
            rw [eb] at he
            have he : PyData.int b = e := Option.some.inj he
            subst he
            have := Im.intI ie
            subst this
            have hb := ho2 b (List.mem_of_getElem? eb)
            refine ⟨rfl, _, rfl, _, rfl, _, _, rfl, rfl, d, l, row, b + 1, rfl, by omega, dj, fun v H11 f11 d11 ⟨a, ev, ha0, ha1⟩ => ?_⟩
            subst ev
            exact hk _ _ f11 ⟨a, b, eb, rfl, ha0, by omega⟩ d11
        · have el7 : x7.length = n := by rw [j7.len, List.length_map, hs2]
          obtain ⟨s3, rfl, hs3, h3⟩ : ∃ s3 : List Int, zs = s3.map V.int ∧ s3.length = n ∧ ∀ (j : Nat) a, s3[j]? = some a → ∃ b, s2[j]? = some b ∧ 0 ≤ a ∧ a ≤ b := by
            refine ⟨zs.map fun z => match z with | .int i => i | _ => 0, ?_, by rw [List.length_map, el, el7], fun j a ha => ?_⟩
            · rw [List.map_map]
              have : zs = zs.map id := by simp
              conv => lhs; rw [this]
              apply List.map_congr_left
              intro z hz'
              obtain ⟨j, hj⟩ := List.mem_iff_getElem?.mp hz'
              obtain ⟨a, b, _, rfl, _⟩ := hz j z hj
              rfl
            · rw [List.getElem?_map] at ha
              cases ez : zs[j]? with
              | none => rw [ez] at ha; cases ha
              | some z =>
                obtain ⟨a', b, eb, rfl, h1, h2⟩ := hz j z ez
                rw [ez] at ha
                have ha : a' = a := Option.some.inj ha
                subst ha
                exact ⟨b, eb, h1, h2⟩
          refine ⟨D, _, rfl, .inl ⟨SqL.of eD, fun r nr => ?_⟩⟩
          refine ⟨.ref r, _, s3, rfl, (f58.trans f9).newD nr, d9.new nr, (i1.mono (f7.trans f8).tu).mono (f9.newD nr).tu, (i2.mono f8.tu).mono (f9.newD nr).tu, stD_im upd_same (by omega), ⟨hs3, fun x hx => ?_⟩, fun j a b ha hb => ?_⟩
          · obtain ⟨j, hj⟩ := List.mem_iff_getElem?.mp hx
            obtain ⟨b, eb, h1, h2⟩ := h3 j x hj
            have := ho2 b (List.mem_of_getElem? eb)
            omega
          · obtain ⟨b', eb, h1, h2⟩ := h3 j a ha
            rw [hb] at eb
            cases eb
            exact h2
      · refine ⟨v7, _, s2, rfl, f58, d8, i1.mono (f7.trans f8).tu, i2.mono f8.tu, i2.mono f8.tu, ⟨hs2, ho2⟩, fun j a b ha hb => ?_⟩
        rw [ha] at hb
        cases hb
        omega
    · rintro σ H8 ⟨v8, y9, s3, rfl, f8, d8, i6, i7, i8, ho8, hle⟩
      have hp8 := f8.kp p2 _ p2d hp5
      have hpn8 : H8 pn = some (.lst (names.map V.str)) := (f5.trans f8).kp pn _ hpd hpn2
      have hj : 6 + i < names.length := by omega
      have enm : names[6 + i]? = some names[6 + i] := List.getElem?_eq_getElem hj
      have e6 : (6 : Int) + ((i : Nat) : Int) = ((6 + i : Nat) : Int) := by omega
      refine ⟨_, rfl, .inl ⟨rfl, _, SqL.of hp8⟩, ?_⟩
      refine ⟨_, rfl, _, rfl, _, _, rfl, rfl, pn, _, _, .str names[6 + i], rfl, rfl, SqL.of hpn8, by rw [e6]; exact atI_nat (by rw [List.getElem?_map, enm]; rfl), _, rfl, _, rfl, _, rfl, (by show 4 ≤ sizeLine; decide), fun r nr => ?_⟩
      have f9 : Fm M0 H8 (upd H8 r (.tup [.str names[6 + i], v6, v8, v7])) := Fm.new nr
      have nrp : p2 ≠ r := ne_of_none hp8 nr
      have hp9 : (upd H8 r (.tup [.str names[6 + i], v6, v8, v7])) p2 = some (.lst xs) := by rw [upd_ne nrp]; exact hp8
      refine ⟨p2, _, _, rfl, rfl, hp9, Nat.lt_of_le_of_lt (by rw [him.len, List.length_map]; omega : _ ≤ 8) (by decide), ?_⟩
      have hN := hnm (6 + i) _ enm
      have hNo := hN.ok (by omega)
      have tF : Tu (upd H8 r (.tup [.str names[6 + i], v6, v8, v7])) _ := Tu.lst (o' := .lst (xs ++ [.ref r])) hp9
      refine ⟨_, _, _, _, _, rfl, ((f5.trans f8).trans f9.up).mutL np2 hp9, (d8.new nr).upd p2d p2l, xs ++ [.ref r], ms ++ [⟨names[6 + i], s1, s3, s2⟩], upd_same, ?_, by rw [List.length_append, List.length_singleton, hml], fun k v hv => ?_⟩
      · rw [List.map_append]
        refine ((him.mono f8.tu).mono f9.tu |>.mono tF).snoc (Im.mono tF (.tup (SqT.of upd_same) (by show 4 ≤ 1000; decide) (.cons (.str hNo.1 hNo.2) (.cons (i6.mono f9.tu) (.cons (i8.mono f9.tu) (.cons (i7.mono f9.tu) .nil))))))
      · by_cases hk : k < ms.length
        · rw [List.getElem?_append_left hk] at hv
          exact hmo k v hv
        · rw [List.getElem?_append_right (by omega)] at hv
          have : k - ms.length = 0 := by
            cases q : k - ms.length with
            | zero => rfl
            | succ k => rw [q] at hv; simp at hv
          rw [this] at hv
          have hv : v = ⟨names[6 + i], s1, s3, s2⟩ := by simpa using hv.symm
          have ek : k = i := by omega
          subst ek
          subst hv
          exact ⟨hN, ⟨hs1, ho1⟩, ho8, ⟨hs2, ho2⟩, hle⟩
  · rintro σ H5 ⟨y5, y6, y7, y8, y9, rfl, f5, d5, xs, ms, hp5, him, hml, hmo⟩
    have hpn5 : H5 pn = some (.lst (names.map V.str)) := f5.kp pn _ hpd hpn2
    -- return (tuple(names[:n]), tuple(moves))
    refine ⟨_, rfl, _, rfl, (n : Nat), rfl, pn, _, rfl, SqL.of hpn5, fun r nr => ?_⟩
    rw [take_len, ← List.map_take]
    have fr : Fm M0 H5 (upd H5 r (.lst ((names.take n).map V.str))) := Fm.new nr
    refine ⟨r, _, rfl, .inl ⟨SqL.of upd_same, fun a na => ?_⟩⟩
    have fa : Fm M0 _ (upd (upd H5 r (.lst ((names.take n).map V.str))) a (.tup ((names.take n).map V.str))) := Fm.new na
    have hp6 := (fr.trans fa).kp p2 _ (fun z => z) hp5
    refine ⟨_, rfl, p2, xs, rfl, .inl ⟨SqL.of hp6, fun b nb => ?_⟩⟩
    have fb : Fm M0 _ (upd (upd (upd H5 r (.lst ((names.take n).map V.str))) a (.tup ((names.take n).map V.str))) b (.tup xs)) := Fm.new nb
    refine ⟨(by show 2 ≤ sizeLine; decide), fun z nz => ?_⟩
    have fz : Fm M0 _ (upd (upd (upd (upd H5 r (.lst ((names.take n).map V.str))) a (.tup ((names.take n).map V.str))) b (.tup xs)) z (.tup [.ref a, .ref b])) := Fm.new nz
    have fall := ((fr.trans fa).trans fb).trans fz
    have htk : ∀ s ∈ names.take n, s.length ≤ 1000 ∧ PyData.strOk s = true := fun s hs => by
      obtain ⟨j, hj⟩ := List.mem_iff_getElem?.mp hs
      have hj' := (List.getElem?_eq_some_iff.mp hj).1
      rw [List.length_take] at hj'
      rw [List.getElem?_take] at hj
      rw [if_pos (by omega)] at hj
      exact (hnm j s hj).ok (by omega)
    refine q _ _ (((f1.trans f2).trans f5).trans fall.up) (d5.keep fall) ⟨⟨names.take n, ms⟩, ?_, ?_⟩
    · refine .tup (SqT.of upd_same) (by show 2 ≤ 1000; decide) (.cons ?_ (.cons ?_ .nil))
      · refine (Im.tup (H := upd (upd H5 r _) a _) (SqT.of upd_same) (by rw [List.length_map, List.length_take]; omega) (names_im htk)).mono (fb.trans fz).tu
      · refine (Im.tup (H := upd _ b _) (SqT.of upd_same) (by rw [him.len, List.length_map]; omega) (him.mono ((fr.trans fa).trans fb).tu)).mono fz.tu
    · refine ⟨by show 1 ≤ (names.take n).length; rw [List.length_take]; omega, by show (names.take n).length ≤ 6; rw [List.length_take]; omega, by show ms.length ≤ 8; omega, fun k s hs => ?_, ?_⟩
      · have hk := (List.getElem?_eq_some_iff.mp hs).1
        have hk : k < (names.take n).length := hk
        rw [List.length_take] at hk
        have hs : (names.take n)[k]? = some s := hs
        rw [List.getElem?_take, if_pos (by omega)] at hs
        exact hnm k s hs
      · have : (names.take n).length = n := by rw [List.length_take]; omega
        show ∀ (k : Nat) v, ms[k]? = some v → MvOk (names.take n).length m k v
        rw [this]
        exact hmo
end

end Mt

namespace Mt
open PySem PySem.Spec PyProof.Rows L2
/-! the law's run -/
open TL
def sp_law_run (K : PySem.W.Frag) (f : Nat) : Sp := fun vs H Q _ => ∃ (d l : Addr) (row : List Int) (mv n : Nat) (t : Int), vs = [.ref d, .int (mv : Nat), .int (n : Nat), .int t] ∧ n < f ∧ 0 < t ∧
  drawn d l row H (fun v H' => ∃ ds : List PyData, Im K H' v (.tuple ds) ∧ areSteps mv (n + 1) (.tuple ds) = true ∧ ds.length ≤ 4) Q
theorem isStep_do {mv n : Nat} {c : Int} (h0 : 0 ≤ c) (h1 : c < (mv : Nat)) : isStep mv (n + 1) (.tuple [.str "do", .int c]) = true := by
  simp only [isStep, isStepD, isNum, hiOk, Bool.and_eq_true, decide_eq_true_eq]
  exact ⟨trivial, h0, by omega⟩
theorem isStep_rep {mv n : Nat} {c : Int} {ds : List PyData} (h0 : 1 ≤ c) (hn : 0 < n) (hd : ds ≠ []) (hr : areSteps mv n (.tuple ds) = true) : isStep mv (n + 1) (.tuple [.str "rep", .int c, .tuple ds]) = true := by
  have he : isEmp (.tuple ds) = false := by
    cases ds with
    | nil => exact absurd rfl hd
    | cons _ _ => rfl
  unfold areSteps at hr
  simp only [isStep, isStepD, isNum, hiOk, he, hr, decide_eq_true hn, decide_eq_true h0]
  rfl
section
variable {P : Program} {w : World} {K : PySem.W.Frag} {mg : Str → Option Value} {base : Heap}
theorem ok_law_run1 (W : Wd K mg) {f k : Nat} (G : FnOk P w K mg base CX0 k W.a__law_run W.d__law_run ["draws", "moves", "depth", "times"] (sp_law_run K f)) (hk : 1 ≤ k) : FnOk P w K mg base CX0 (k + 1) W.a__law_run W.d__law_run ["draws", "moves", "depth", "times"] (sp_law_run K (f + 1)) := by
  have nd := sc_law_run.nd
  refine W.D__law_run.F.ok sc_law_run (fun vs H Q E h => ?_) (fun cdv A outer s H vs Q E hr' h => ?_)
  · obtain ⟨d, l, row, mv, n, t, rfl, _⟩ := h
    rfl
  obtain ⟨d, l, row, mv, n, t, rfl, hnf, ht, hd, q⟩ := h
  have hr : Room 1 _ := hr'.mono hk
  refine ⟨_, (pss_cons (ps_set (i := 4) nd rfl (Or.inl rfl) (pe_lst pa_nil))
      (pss_cons (ps_for PassesOwn.never rfl (pi_range1 rfl W.n_range (pa_cons (pe_call (ok_law_take W) (hr.mono (by decide)) (by rfl) W.D__law_take.m W.D__law_take.F.kp W.D__law_take.b .nil pass0 (pa_cons (pv 0) (pa_cons pe_int pa_nil))) pa_nil)) (pg_name (i := 5) nd rfl (Or.inl rfl))
        (pss_cons (ps_if (pt_cmpR op_eq (pv 1) pe_int (nomark _))
          (pss_one (ps_ret (pe_tup pa_nil)))
          pss_nil)
        (pss_cons (ps_set (i := 6) nd rfl (Or.inl rfl) (pe_tup pa_nil))
        (C8.pss_cut (ps_if (PW.pt (pw_and (pt_cmpR op_gt (pv 2) pe_int (nomark _)) (pw_and1 (pt_cmpR op_eq (pe_call (ok_law_take W) (hr.mono (by decide)) (by rfl) W.D__law_take.m W.D__law_take.F.kp W.D__law_take.b .nil pass0 (pa_cons (pv 0) (pa_cons pe_int pa_nil))) pe_int (nomark _)))))
          (pss_one (ps_set (i := 6) nd rfl (Or.inl rfl) (pe_call G hr' (by rfl) W.D__law_run.m W.D__law_run.F.kp W.D__law_run.b .nil pass0 (pa_cons (pv 0) (pa_cons (pv 1) (pa_cons (pe_op op_sub (pv 2) pe_int) (pa_cons (pv 3) pa_nil)))))))
          pss_nil)
        (pss_one (ps_if (pt_cmpR (op_eqE hr.units) (pv 6) (pe_tup pa_nil) (nomark _))
          (pss_one (ps_expr (pe_bm PySem.F.plainAttrs_list PySem.F.slot_list_append PySem.F.type_list_append mt_append (pv 4) (pa_cons (pe_tup (pa_cons pe_str (pa_cons (pe_call (ok_law_take W) (hr.mono (by decide)) (by rfl) W.D__law_take.m W.D__law_take.F.kp W.D__law_take.b .nil pass0 (pa_cons (pv 0) (pa_cons (pv 1) pa_nil))) pa_nil))) pa_nil))))
          (pss_one (ps_expr (pe_bm PySem.F.plainAttrs_list PySem.F.slot_list_append PySem.F.type_list_append mt_append (pv 4) (pa_cons (pe_tup (pa_cons pe_str (pa_cons (pe_op op_add pe_int (pe_call (ok_law_take W) (hr.mono (by decide)) (by rfl) W.D__law_take.m W.D__law_take.F.kp W.D__law_take.b .nil pass0 (pa_cons (pv 0) (pa_cons (pv 3) pa_nil)))) (pa_cons (pv 6) pa_nil)))) pa_nil))))))))))
      (pss_one (ps_ret (pe_callTy call_tuple_of (by rfl) W.n_tuple bt_tuple (pa_cons (pv 4) pa_nil)))))), ?_⟩
  have hdo := str_ok (x := "do") (by decide +kernel)
  have hrep := str_ok (x := "rep") (by decide +kernel)
  refine ⟨Nat.zero_le _, fun p np => ?_⟩
  have npd := hd.nd np
  have npl := hd.nl np
  refine ⟨_, rfl, d, l, row, 4, rfl, by decide, hd.new np, fun v H1 f1 d1 ⟨c4, ev, hc0, hc1⟩ => ?_⟩
  subst ev
  obtain ⟨c, rfl⟩ : ∃ c : Nat, c4 = (c : Nat) := ⟨c4.toNat, by omega⟩
  have f01 : Fm (Md d) H H1 := (Fm.up (Fm.new np)).trans f1
  refine ⟨(c : Nat), rfl, by omega, by omega, for_range (lo := 0) (n := c) (fun i σ H2 => ∃ y5 y6, σ = [some (.ref d), some (.int (mv : Nat)), some (.int (n : Nat)), some (.int t), some (.ref p), y5, y6] ∧ Fm (Md d) H H2 ∧ Dr d l row H2 ∧
      ∃ (xs : List V) (ds : List PyData), H2 p = some (.lst xs) ∧ ImA K H2 xs ds ∧ ds.length = i ∧ ∀ e ∈ ds, isStep mv (n + 1) e = true)
    ⟨none, none, rfl, f01, d1, [], [], f1.kp p _ npd upd_same, .nil, rfl, fun e he => by simp at he⟩ ?_ ?_⟩
  · rintro i σ H2 hi ⟨y5, y6, rfl, f2, d2, xs, ds, hp, him, hl, hall⟩
    refine ⟨_, rfl, rfl, _, rfl, ite2 (fun _ => ?_) (fun c0 => ?_)⟩
    · -- return ()
      refine ⟨(by show 0 ≤ sizeLine; decide), fun r nr => ?_⟩
      exact q _ _ (f2.newD nr) (d2.new nr) ⟨[], .tup (SqT.of upd_same) (by show 0 ≤ 1000; decide) .nil, rfl, by decide⟩
    have hmv : 0 < mv := by
      have : ¬ ((mv : Nat) : Int) = 0 := fun z => c0 (decide_eq_true (by rw [z]))
      omega
    -- inner = ()
    refine ⟨(by show 0 ≤ sizeLine; decide), fun r nr => ?_⟩
    have f3 := f2.newD (o := .tup []) nr
    have d3 := d2.new (o := .tup []) nr
    have hp3 : (upd H2 r (.tup [])) p = some (.lst xs) := by rw [upd_ne (ne_of_none hp nr)]; exact hp
    have hi3 : ImA K (upd H2 r (.tup [])) xs ds := him.mono (Tu.new nr)
    refine ⟨fun σ H4 => ∃ y5 v6 es, σ = [some (.ref d), some (.int (mv : Nat)), some (.int (n : Nat)), some (.int t), some (.ref p), y5, some v6] ∧ Fm (Md d) H H4 ∧ Dr d l row H4 ∧ H4 p = some (.lst xs) ∧ ImA K H4 xs ds ∧ Im K H4 v6 (.tuple es) ∧ areSteps mv n (.tuple es) = true ∧ (es ≠ [] → 0 < n), ?_, ?_⟩
    · have stay : ∀ {H4 : Hp}, Fm (Md d) (upd H2 r (.tup [])) H4 → Dr d l row H4 → ∃ y5' v6 es, [some (.ref d), some (.int (mv : Nat)), some (.int (n : Nat)), some (.int t), some (.ref p), some (.int ((0 : Int) + (i : Nat))), some (.ref r)] = [some (.ref d), some (.int (mv : Nat)), some (.int (n : Nat)), some (.int t), some (.ref p), y5', some v6] ∧ Fm (Md d) H H4 ∧ Dr d l row H4 ∧ H4 p = some (.lst xs) ∧ ImA K H4 xs ds ∧ Im K H4 v6 (.tuple es) ∧ areSteps mv n (.tuple es) = true ∧ (es ≠ [] → 0 < n) := fun f4 d4 =>
        ⟨_, .ref r, [], rfl, f3.trans f4, d4, f4.kp p _ npd hp3, hi3.mono f4.tu, .tup (f4.tu.seq (SqT.of upd_same)) (by show 0 ≤ 1000; decide) .nil, rfl, fun z => absurd rfl z⟩
      refine ⟨_, rfl, _, _, rfl, rfl, _, rfl, ite2 (fun cn => ?_) (fun cn => ?_)⟩
      · have cn : 0 < n := by have := of_decide_eq_true cn; omega
        refine ⟨_, rfl, d, l, row, 3, rfl, by decide, d3, fun v H4 f4 d4 ⟨c3, ev, _, _⟩ => ?_⟩
        subst ev
        refine ⟨rfl, _, rfl, ite2 (fun _ => ?_) (fun _ => ?_)⟩
        · refine ⟨_, rfl, _, rfl, _, rfl, _, _, rfl, rfl, _, rfl, d, l, row, mv, n - 1, t, ?_, by omega, ht, d4, fun v H5 f5 d5 ⟨es, ie, se, _⟩ => ?_⟩
          · have : ((n : Nat) : Int) - 1 = ((n - 1 : Nat) : Int) := by omega
            show [V.ref d, V.int (mv : Nat), V.int (((n : Nat) : Int) - 1), V.int t] = _
            rw [this]
          · have f35 := f4.trans f5
            rw [show n - 1 + 1 = n by omega] at se
            exact ⟨_, v, es, rfl, f3.trans f35, d5, f35.kp p _ npd hp3, hi3.mono f35.tu, ie, se, fun _ => cn⟩
        · exact stay f4 d4
      · exact stay (Fm.refl _) d3
    · rintro σ H4 ⟨y5, v6, es, rfl, f4, d4, hp4, hi4, ie, se, hn0⟩
      refine ⟨_, rfl, (by show 0 ≤ sizeLine; decide), fun z nz => ?_⟩
      have f5 := f4.newD (o := .tup []) nz
      have d5 := d4.new (o := .tup []) nz
      have hp5 : (upd H4 z (.tup [])) p = some (.lst xs) := by rw [upd_ne (ne_of_none hp4 nz)]; exact hp4
      have hi5 : ImA K (upd H4 z (.tup [])) xs ds := hi4.mono (Tu.new nz)
      have ie5 : Im K (upd H4 z (.tup [])) v6 (.tuple es) := ie.mono (Tu.new nz)
      refine ⟨.tuple es, z, ie5, rfl, SqT.of upd_same, _, rfl, ?_⟩
      -- what the append leaves
      have fin : ∀ {H6 : Hp} {v : V} {e : PyData} {y5 : Option V}, Fm (Md d) H H6 → Dr d l row H6 → H6 p = some (.lst xs) → ImA K H6 xs ds → Im K H6 v e → isStep mv (n + 1) e = true →
          ∃ y5' y6', [some (.ref d), some (.int (mv : Nat)), some (.int (n : Nat)), some (.int t), some (.ref p), y5, some v6] = [some (.ref d), some (.int (mv : Nat)), some (.int (n : Nat)), some (.int t), some (.ref p), y5', y6'] ∧ Fm (Md d) H (upd H6 p (.lst (xs ++ [v]))) ∧ Dr d l row (upd H6 p (.lst (xs ++ [v]))) ∧
            ∃ (xs' : List V) (ds' : List PyData), (upd H6 p (.lst (xs ++ [v]))) p = some (.lst xs') ∧ ImA K (upd H6 p (.lst (xs ++ [v]))) xs' ds' ∧ ds'.length = i + 1 ∧ ∀ e ∈ ds', isStep mv (n + 1) e = true := fun f6 d6 hp6 hi6 iv hs =>
        ⟨_, _, rfl, f6.mutL np hp6, d6.upd npd npl, xs ++ [_], ds ++ [_], upd_same, (hi6.mono (Tu.lst hp6)).snoc (iv.mono (Tu.lst hp6)), by rw [List.length_append, List.length_singleton, hl], fun e he => by
          rcases List.mem_append.mp he with he | he
          · exact hall e he
          · rw [List.mem_singleton.mp he]; exact hs⟩
      have hxl : xs.length ≤ 4 := by rw [him.len]; omega
      have hxs : xs.length < sizeLine := Nat.lt_of_le_of_lt hxl (by decide)
      refine ite2 (fun _ => ?_) (fun ce => ?_)
      · refine ⟨_, rfl, .inl ⟨rfl, _, SqL.of hp5⟩, ?_⟩
        refine ⟨_, rfl, _, rfl, d, l, row, (mv : Nat), rfl, by omega, d5, fun v H6 f6 d6 ⟨cm, ev, h0, h1⟩ => ?_⟩
        subst ev
        refine ⟨(by show 2 ≤ sizeLine; decide), fun u nu => ?_⟩
        have fu : Fm M0 H6 (upd H6 u (.tup [.str "do", .int cm])) := Fm.new nu
        have hp6 : (upd H6 u (.tup [.str "do", .int cm])) p = some (.lst xs) := fu.kp p _ (fun z => z) (f6.kp p _ npd hp5)
        refine ⟨p, _, _, rfl, rfl, hp6, hxs, ?_⟩
        exact fin ((f5.trans f6).trans fu.up) (d6.new nu) hp6 ((hi5.mono f6.tu).mono fu.tu) (.tup (SqT.of upd_same) (by show 2 ≤ 1000; decide) (.cons (.str hdo.1 hdo.2) (.cons (.int cm) .nil))) (isStep_do h0 h1)
      · have hes : es ≠ [] := fun z => ce (by subst z; rfl)
        refine ⟨_, rfl, .inl ⟨rfl, _, SqL.of hp5⟩, ?_⟩
        refine ⟨_, rfl, _, rfl, d, l, row, t, rfl, ht, d5, fun v H6 f6 d6 ⟨cm, ev, h0, h1⟩ => ?_⟩
        subst ev
        refine ⟨_, _, rfl, rfl, _, rfl, (by show 3 ≤ sizeLine; decide), fun u nu => ?_⟩
        have fu : Fm M0 H6 (upd H6 u (.tup [.str "rep", .int (1 + cm), v6])) := Fm.new nu
        have hp6 : (upd H6 u (.tup [.str "rep", .int (1 + cm), v6])) p = some (.lst xs) := fu.kp p _ (fun z => z) (f6.kp p _ npd hp5)
        refine ⟨p, _, _, rfl, rfl, hp6, hxs, ?_⟩
        exact fin ((f5.trans f6).trans fu.up) (d6.new nu) hp6 ((hi5.mono f6.tu).mono fu.tu) (.tup (SqT.of upd_same) (by show 3 ≤ 1000; decide) (.cons (.str hrep.1 hrep.2) (.cons (.int _) (.cons ((ie5.mono f6.tu).mono fu.tu) .nil)))) (isStep_rep (by omega) (hn0 hes) hes se)
  · rintro σ H2 ⟨y5, y6, rfl, f2, d2, xs, ds, hp, him, hl, hall⟩
    refine ⟨_, rfl, p, xs, rfl, .inl ⟨SqL.of hp, fun r nr => ?_⟩⟩
    refine q _ _ (f2.newD nr) (d2.new nr) ⟨ds, .tup (SqT.of upd_same) (by rw [him.len]; omega) (him.mono (Tu.new nr)), ?_, by omega⟩
    exact List.all_eq_true.mpr hall
theorem ok_law_run (W : Wd K mg) : ∀ f : Nat, FnOk P w K mg base CX0 (f + 1) W.a__law_run W.d__law_run ["draws", "moves", "depth", "times"] (sp_law_run K f)
  | 0 => none_ok fun vs H Q E ⟨_, _, _, _, _, _, _, h, _⟩ => absurd h (Nat.not_lt_zero _)
  | f + 1 => ok_law_run1 W (ok_law_run W f) (by omega)
end

end Mt

namespace Mt
open PySem PySem.Spec PyProof.Rows L2
/-! the law's spoilt books -/
open TL
abbrev zD (n : Nat) : List PyData := (List.replicate n [PyData.int 0]).flatten
abbrev zT (n : Nat) : PyData := .tuple (zD n)
abbrev goodD (n : Nat) : List PyData := [.str "zz", zT n, zT n, zT n]
def mvT (a b c d : PyData) : PyData := .tuple [a, b, c, d]
abbrev nineD (n : Nat) : List PyData := (List.range 9).map fun k => .tuple [.str (Str.ofString "z" ++ Str.ofString (toString ((k : Nat) : Int))), zT n, zT n, zT n]
/-- the spoilt books, ks: the kinds (k0 the first), ms: the moves -/
def badL (n : Nat) (k0 : PyData) (ks ms : List PyData) : List PyData :=
  [.tuple [.tuple (ks ++ cutP ks none (some 1)), .tuple ms],
   .tuple [.tuple [], .tuple []],
   .tuple [.tuple ks, .tuple (ms ++ (List.replicate 2 [PyData.tuple (goodD n)]).flatten)],
   .tuple [.tuple ks, .tuple (ms ++ [.tuple [.str "x", zT n, zT n, zT n]])],
   .tuple [.tuple ks, .tuple [.tuple [.str "zz", .tuple (zD n ++ [.int 0]), zT n, zT n]]],
   .tuple [.tuple ks, .tuple [.tuple [.str "zz", .tuple ([.int 1001] ++ cutP (zD n) (some 1) none), zT n, zT n]]],
   .tuple [.tuple ks, .tuple [.tuple [.str "zz", zT n, .tuple ([.int 1] ++ cutP (zD n) (some 1) none), zT n]]],
   .tuple [.tuple ks, .tuple [.tuple [.str "zz", .tuple ([.int (-1)] ++ cutP (zD n) (some 1) none), zT n, zT n]]],
   .tuple [.tuple ks, .tuple [.tuple [.str "zz", zT n, .tuple ([.bool false] ++ cutP (zD n) (some 1) none), zT n]]],
   .tuple [.tuple ks, .tuple [.tuple (cutP (goodD n) none (some 3))]],
   .tuple [.tuple ks, .tuple [.tuple ([k0] ++ cutP (goodD n) (some 1) none)]],
   .tuple [k0, .tuple ms],
   .tuple [.tuple [.str "aa", .str "ab", .str "ac", .str "ad", .str "ae", .str "af", .str "ag"], .tuple []],
   .tuple ks,
   .none,
   .int 7,
   .tuple [.tuple ks, .tuple (nineD n)],
   .tuple [.tuple [.str "Aa"], .tuple []],
   .tuple [.tuple [.str "endless"], .tuple []],
   .tuple [.tuple [.str "nothing"], .tuple []],
   .tuple [.tuple ks, .tuple [.tuple [.str "zz", zT n, zT n, .tuple ([.int 1001] ++ cutP (zD n) (some 1) none)]]],
   .tuple [.tuple ks, .tuple [.tuple [.str "zz", zT n, .tuple (zD n ++ [.int 0]), zT n]]],
   .tuple [.tuple ks, .tuple [.tuple [.str "zz", zT n, zT n, .tuple (cutP (zD n) none (some (-1)))]]]]
theorem zD_eq (n : Nat) : zD n = List.replicate n (.int 0) := by
  induction n with
  | zero => rfl
  | succ n ih => rw [zD, List.replicate_succ, List.flatten_cons]; rw [zD] at ih; rw [ih]; rfl
theorem zD_len (n : Nat) : (zD n).length = n := by rw [zD_eq, List.length_replicate]
theorem cut_tail (d : PyData) (r : List PyData) : cutP (d :: r) (some 1) none = r := by
  unfold cutP
  rw [show (d :: r).length = r.length + 1 from rfl, sIx1, HT.sIx_none]
  show List.take (r.length + 1 - 1) r = r
  rw [Nat.add_sub_cancel, List.take_length]
theorem cut_head (d : PyData) (r : List PyData) : cutP (d :: r) none (some 1) = [d] := by
  unfold cutP
  have := HT.sIx_nat (d :: r).length (d :: r).length 1
  rw [show ((1 : Nat) : Int) = 1 from rfl] at this
  rw [this, HT.sIx_none, List.drop_zero]
  show List.take (min 1 (r.length + 1) - 0) (d :: r) = [d]
  rw [show min 1 (r.length + 1) - 0 = 1 by omega]
  rfl
theorem cut_init (ds : List PyData) : (cutP ds none (some (-1))).length = ds.length - 1 := by
  unfold cutP
  rw [HT.sIx_none, List.drop_zero, List.length_take]
  have e : HT.sIx ds.length ds.length (some (-1)) = ((-1 : Int) + (ds.length : Int)).toNat := by
    simp [HT.sIx]
  rw [e]
  omega
/-- no book: one of the looks fails -/
theorem isBook_no {ks ms : List PyData} (h : ks.all isName = false ∨ ms.all (isMove ks.length) = false ∨ ¬ (bkNames ks ms).Nodup) : isBook (.tuple [.tuple ks, .tuple ms]) = false := by
  rcases h with h | h | h
  · simp only [isBook, h]; simp
  · simp only [isBook, h]; simp
  · simp only [isBook, decide_eq_false h]; simp
theorem one_no {n : Nat} {m : PyData} (h : isMove n m = false) : [m].all (isMove n) = false := by simp [h]
theorem mv_no {n : Nat} {a t l m : PyData} (h : isName a = false ∨ isEnt t n 0 (some 1000) = false ∨ isEnt l n 0 (some 1000) = false ∨ isEnt m n 0 (some 1000) = false ∨ (List.range n).all (leAt l m) = false) : isMove n (.tuple [a, t, l, m]) = false := by
  rcases h with h | h | h | h | h <;> simp only [isMove, h] <;> simp
theorem ent_len {ds : List PyData} {n : Nat} (h : ds.length ≠ n) : isEnt (.tuple ds) n 0 (some 1000) = false := by
  simp only [isEnt]
  rw [decide_eq_false (by omega), Bool.false_and]
theorem ent_hd {d : PyData} {ds : List PyData} {n : Nat} (h : isNum d 0 (some 1000) = false) : isEnt (.tuple (d :: ds)) n 0 (some 1000) = false := by
  simp only [isEnt, List.all_cons, h, Bool.false_and, Bool.and_false]
theorem dup_no {α : Type} {a b : List α} {x : α} (ha : x ∈ a) (hb : x ∈ b) : ¬ (a ++ b).Nodup := fun h => (List.nodup_append.mp h).2.2 x ha x hb rfl
theorem bad_all {n : Nat} {k0 : Str} {kr : List Str} {ms : List PyData} (hn : n = kr.length + 1) : ∀ d ∈ badL n (.str k0) ((k0 :: kr).map .str) ms, isBook d = false := by
  have hl : ((k0 :: kr).map PyData.str).length = n := by rw [List.length_map, List.length_cons]; omega
  obtain ⟨n', rfl⟩ : ∃ n', n = n' + 1 := ⟨kr.length, hn⟩
  have ez : zD (n' + 1) = .int 0 :: zD n' := by rw [zD_eq, zD_eq, List.replicate_succ]
  intro d hd
  simp only [badL, List.mem_cons, List.not_mem_nil, or_false] at hd
  have one : ∀ m, isMove (n' + 1) m = false → isBook (.tuple [.tuple ((k0 :: kr).map .str), .tuple [m]]) = false := fun m h => isBook_no (.inr (.inl (by rw [hl]; exact one_no h)))
  rcases hd with rfl | rfl | rfl | rfl | rfl | rfl | rfl | rfl | rfl | rfl | rfl | rfl | rfl | rfl | rfl | rfl | rfl | rfl | rfl | rfl | rfl | rfl | rfl
  · refine isBook_no (.inr (.inr ?_))
    rw [List.map_cons, cut_head]
    unfold bkNames
    rw [List.map_append, List.append_assoc]
    exact dup_no (x := k0) (by simp [strD]) (by simp [strD])
  · decide
  · refine isBook_no (.inr (.inr ?_))
    unfold bkNames
    rw [List.map_append, ← List.append_assoc]
    intro h
    have h := (List.nodup_append.mp h).2.1
    revert h
    simp only [List.replicate_succ, List.replicate_zero, List.flatten_cons, List.flatten_nil, List.append_nil, List.singleton_append, List.map_cons, List.map_nil]
    simp
  · refine isBook_no (.inr (.inl ?_))
    rw [List.all_append, one_no (mv_no (.inl (by decide +kernel))), Bool.and_false]
  · exact one _ (mv_no (.inr (.inl (ent_len (by rw [List.length_append, zD_len]; simp)))))
  · exact one _ (mv_no (.inr (.inl (ent_hd (by decide)))))
  · rw [ez, cut_tail]
    refine one _ (mv_no (.inr (.inr (.inr (.inr ?_)))))
    rw [List.all_eq_false]
    exact ⟨0, by simp, by simp [leAt, ez]⟩
  · exact one _ (mv_no (.inr (.inl (ent_hd (by decide)))))
  · exact one _ (mv_no (.inr (.inr (.inl (ent_hd (by decide))))))
  · refine one _ ?_
    rfl
  · refine isBook_no (.inr (.inr ?_))
    unfold bkNames
    exact dup_no (x := k0) (by simp [strD]) (by simp [strD, fstD])
  · rfl
  · simp [isBook]
  · match kr with
    | [] => simp [isBook]
    | [_] => simp [isBook]
    | _ :: _ :: _ => simp [isBook]
  · rfl
  · rfl
  · unfold isBook
    simp only []
    have : (nineD (n' + 1)).length = 9 := by simp
    rw [decide_eq_false (p := (nineD (n' + 1)).length ≤ 8) (by omega)]
    simp
  · exact isBook_no (.inl (by decide +kernel))
  · exact isBook_no (.inl (by decide +kernel))
  · exact isBook_no (.inl (by decide +kernel))
  · exact one _ (mv_no (.inr (.inr (.inr (.inl (ent_hd (by decide)))))))
  · exact one _ (mv_no (.inr (.inr (.inl (ent_len (by rw [List.length_append, zD_len]; simp))))))
  · exact one _ (mv_no (.inr (.inr (.inr (.inl (ent_len (by rw [cut_init, zD_len]; omega)))))))

def sp_law_bad_book (K : PySem.W.Frag) : Sp := fun vs H Q _ => ∃ (d l : Addr) (row : List Int) (b : V) (bk : Bk) (m : Int), vs = [.ref d, b] ∧ Im K H b (bkD bk) ∧ GB m bk ∧
  drawn d l row H (fun v H' => ∃ e, Im K H' v e ∧ isBook e = false) Q
theorem z_str : ∀ k < 9, (decide ((Str.ofString "z" ++ Str.ofString (toString ((k : Nat) : Int))).length ≤ 1000) && PyData.strOk (Str.ofString "z" ++ Str.ofString (toString ((k : Nat) : Int)))) = true := by decide +kernel
section
variable {P : Program} {w : World} {K : PySem.W.Frag} {mg : Str → Option Value} {base : Heap}
theorem ok_law_bad_book (W : Wd K mg) : FnOk P w K mg base CX0 2 W.a__law_bad_book W.d__law_bad_book ["draws", "book"] (sp_law_bad_book K) := by
  have nd := sc_law_bad_book.nd
  refine W.D__law_bad_book.F.ok sc_law_bad_book (fun vs H Q E h => ?_) (fun cdv A outer s H vs Q E hr h => ?_)
  · obtain ⟨d, l, row, b, bk, m, rfl, _⟩ := h
    rfl
  obtain ⟨d, l, row, b, bk, m, rfl, hb, hg, hd, q⟩ := h
  refine ⟨_, (pss_cons (ps_asg (pv 1) (pg_tup rfl (pgs_cons (pg_name (i := 2) nd rfl (Or.inl rfl)) (pgs_cons (pg_name (i := 3) nd rfl (Or.inl rfl)) pgs_nil))))
      (pss_cons (ps_set (i := 4) nd rfl (Or.inl rfl) (pe_callB call_len (by rfl) W.n_len bt_len (pa_cons (pv 2) pa_nil)))
      (pss_cons (ps_set (i := 5) nd rfl (Or.inr rfl) (pe_op MtT.op_repA (pe_tup (pa_cons pe_int pa_nil)) (pv 4)))
      (pss_cons (ps_set (i := 6) nd rfl (Or.inl rfl) (pe_tup (pa_cons pe_str (pa_cons (pv 5) (pa_cons (pv 5) (pa_cons (pv 5) pa_nil))))))
      (pss_cons (ps_set (i := 7) nd rfl (Or.inl rfl) (pe_lst (pa_cons (pe_tup (pa_cons (pe_op op_catA (pv 2) (pe_slice sl_tupA (pv 2) po_none (po_some pe_int))) (pa_cons (pv 3) pa_nil))) (pa_cons (pe_tup (pa_cons (pe_tup pa_nil) (pa_cons (pe_tup pa_nil) pa_nil))) (pa_cons (pe_tup (pa_cons (pv 2) (pa_cons (pe_op op_catA (pv 3) (pe_op MtT.op_repA (pe_tup (pa_cons (pv 6) pa_nil)) pe_int)) pa_nil))) (pa_cons (pe_tup (pa_cons (pv 2) (pa_cons (pe_op op_catA (pv 3) (pe_tup (pa_cons (pe_tup (pa_cons pe_str (pa_cons (pv 5) (pa_cons (pv 5) (pa_cons (pv 5) pa_nil))))) pa_nil))) pa_nil))) (pa_cons (pe_tup (pa_cons (pv 2) (pa_cons (pe_tup (pa_cons (pe_tup (pa_cons pe_str (pa_cons (pe_op op_catA (pv 5) (pe_tup (pa_cons pe_int pa_nil))) (pa_cons (pv 5) (pa_cons (pv 5) pa_nil))))) pa_nil)) pa_nil))) (pa_cons (pe_tup (pa_cons (pv 2) (pa_cons (pe_tup (pa_cons (pe_tup (pa_cons pe_str (pa_cons (pe_op op_catA (pe_tup (pa_cons pe_int pa_nil)) (pe_slice sl_tupA (pv 5) (po_some pe_int) po_none)) (pa_cons (pv 5) (pa_cons (pv 5) pa_nil))))) pa_nil)) pa_nil))) (pa_cons (pe_tup (pa_cons (pv 2) (pa_cons (pe_tup (pa_cons (pe_tup (pa_cons pe_str (pa_cons (pv 5) (pa_cons (pe_op op_catA (pe_tup (pa_cons pe_int pa_nil)) (pe_slice sl_tupA (pv 5) (po_some pe_int) po_none)) (pa_cons (pv 5) pa_nil))))) pa_nil)) pa_nil))) (pa_cons (pe_tup (pa_cons (pv 2) (pa_cons (pe_tup (pa_cons (pe_tup (pa_cons pe_str (pa_cons (pe_op op_catA (pe_tup (pa_cons (pe_un un_neg pe_int) pa_nil)) (pe_slice sl_tupA (pv 5) (po_some pe_int) po_none)) (pa_cons (pv 5) (pa_cons (pv 5) pa_nil))))) pa_nil)) pa_nil))) (pa_cons (pe_tup (pa_cons (pv 2) (pa_cons (pe_tup (pa_cons (pe_tup (pa_cons pe_str (pa_cons (pv 5) (pa_cons (pe_op op_catA (pe_tup (pa_cons pe_bl pa_nil)) (pe_slice sl_tupA (pv 5) (po_some pe_int) po_none)) (pa_cons (pv 5) pa_nil))))) pa_nil)) pa_nil))) (pa_cons (pe_tup (pa_cons (pv 2) (pa_cons (pe_tup (pa_cons (pe_slice sl_tupA (pv 6) po_none (po_some pe_int)) pa_nil)) pa_nil))) (pa_cons (pe_tup (pa_cons (pv 2) (pa_cons (pe_tup (pa_cons (pe_op op_catA (pe_tup (pa_cons (pe_ix ix_tup (pv 2) pe_int (fun _ _ => rfl)) pa_nil)) (pe_slice sl_tupA (pv 6) (po_some pe_int) po_none)) pa_nil)) pa_nil))) (pa_cons (pe_tup (pa_cons (pe_ix ix_tup (pv 2) pe_int (fun _ _ => rfl)) (pa_cons (pv 3) pa_nil))) (pa_cons (pe_tup (pa_cons (pe_tup (pa_cons pe_str (pa_cons pe_str (pa_cons pe_str (pa_cons pe_str (pa_cons pe_str (pa_cons pe_str (pa_cons pe_str pa_nil)))))))) (pa_cons (pe_tup pa_nil) pa_nil))) (pa_cons (pv 2) (pa_cons pe_non (pa_cons pe_int (pa_cons (pe_tup (pa_cons (pv 2) (pa_cons (pe_callTy call_tuple_of (by rfl) W.n_tuple bt_tuple (pa_cons (pe_lc (own := [("k", 8)]) rfl nd (pi_range1 rfl W.n_range (pa_cons pe_int pa_nil)) (blkOk_by (N := N_law_bad_book) (sc := defScope s_law_bad_book) (own := [("k", 8)]) (by decide +kernel)) (fun _ _ _ _ _ => (pg_name (i := 8) nd rfl (Or.inl rfl))) (fun _ _ _ _ _ => pts_nil) (fun _ _ _ _ _ => (pe_tup (pa_cons (pe_op op_add_str pe_str (pe_callTy call_str_int (by rfl) W.n_str bt_str (pa_cons (pv 8) pa_nil))) (pa_cons (pv 5) (pa_cons (pv 5) (pa_cons (pv 5) pa_nil))))))) pa_nil)) pa_nil))) (pa_cons (pe_tup (pa_cons (pe_tup (pa_cons pe_str pa_nil)) (pa_cons (pe_tup pa_nil) pa_nil))) (pa_cons (pe_tup (pa_cons (pe_tup (pa_cons pe_str pa_nil)) (pa_cons (pe_tup pa_nil) pa_nil))) (pa_cons (pe_tup (pa_cons (pe_tup (pa_cons pe_str pa_nil)) (pa_cons (pe_tup pa_nil) pa_nil))) (pa_cons (pe_tup (pa_cons (pv 2) (pa_cons (pe_tup (pa_cons (pe_tup (pa_cons pe_str (pa_cons (pv 5) (pa_cons (pv 5) (pa_cons (pe_op op_catA (pe_tup (pa_cons pe_int pa_nil)) (pe_slice sl_tupA (pv 5) (po_some pe_int) po_none)) pa_nil))))) pa_nil)) pa_nil))) (pa_cons (pe_tup (pa_cons (pv 2) (pa_cons (pe_tup (pa_cons (pe_tup (pa_cons pe_str (pa_cons (pv 5) (pa_cons (pe_op op_catA (pv 5) (pe_tup (pa_cons pe_int pa_nil))) (pa_cons (pv 5) pa_nil))))) pa_nil)) pa_nil))) (pa_cons (pe_tup (pa_cons (pv 2) (pa_cons (pe_tup (pa_cons (pe_tup (pa_cons pe_str (pa_cons (pv 5) (pa_cons (pv 5) (pa_cons (pe_slice sl_tupA (pv 5) po_none (po_some (pe_un un_neg pe_int))) pa_nil))))) pa_nil)) pa_nil))) pa_nil)))))))))))))))))))))))))
      (pss_one (ps_ret (pe_ix ix_list (pv 7) (pe_call (ok_law_take W) (hr.mono (by decide)) (by rfl) W.D__law_take.m W.D__law_take.F.kp W.D__law_take.b .nil pass0 (pa_cons (pv 0) (pa_cons (pe_callB call_len (by rfl) W.n_len bt_len (pa_cons (pv 7) pa_nil)) pa_nil))) (fun _ _ => rfl))))))))), ?_⟩
  obtain ⟨a, p, r, ks, ms, rfl, ha, hp, hk, hr2, hm, zk, zm⟩ := bk_parts hb
  have hlk : ks.length = bk.kinds.length := by rw [hk.len, List.length_map]
  have hlm : ms.length = bk.moves.length := by rw [hm.len, List.length_map]
  have hk1 := hg.k1
  have hk6 := hg.k6
  have hm8 := hg.m8
  obtain ⟨k0, kr, ek⟩ : ∃ k0 kr, bk.kinds = k0 :: kr := by
    cases e : bk.kinds with
    | nil => rw [e] at hk1; simp at hk1
    | cons k0 kr => exact ⟨k0, kr, rfl⟩
  have hn : bk.kinds.length = kr.length + 1 := by rw [ek]; rfl
  -- kinds, moves = book; n = len(kinds)
  refine ⟨_, rfl, a, _, rfl, ha, rfl, .ref p, [.ref r], rfl, .ref r, [], rfl, rfl, ?_⟩
  refine ⟨_, rfl, _, _, rfl, .inr ⟨_, hp, rfl⟩, ?_⟩
  rw [hlk]
  have ik : Im K H (.ref p) (.tuple (bk.kinds.map .str)) := .tup hp zk hk
  have im : Im K H (.ref r) (.tuple (bk.moves.map mvD)) := .tup hr2 zm hm
  -- zero
  refine gset (nxI ?_)
  refine st_setS (K := K) (d := zT bk.kinds.length) ?zero fun z H1 f1 iz => ?_
  case zero => exact ei_rep (ei_tup (eia_cons ei_int eia_nil)) (ei_var (i := 4) rfl (.int _)) (by simp) hk1 (by simp; omega)
  -- good
  refine st_setS (K := K) (d := .tuple (goodD bk.kinds.length)) ?good fun g H2 f2 ig => ?_
  case good => exact ei_tup (eia_cons (ei_str (by decide +kernel)) (eia_cons (ei_var (i := 5) rfl iz) (eia_cons (ei_var (i := 5) rfl iz) (eia_cons (ei_var (i := 5) rfl iz) eia_nil)))) (by simp)
  have f12 := f1.trans f2
  have ik2 := f12.im ik
  have im2 := f12.im im
  have iz2 := f2.im iz
  -- bad
  have hbad : ∀ e ∈ badL bk.kinds.length (.str k0) (bk.kinds.map .str) (bk.moves.map mvD), isBook e = false := by
    rw [hn, ek]
    exact bad_all rfl
  have lz := zD_len bk.kinds.length
  refine st_lstS (K := K) (ds := badL bk.kinds.length (.str k0) (bk.kinds.map .str) (bk.moves.map mvD)) ?list (by show 23 ≤ 1000; decide) fun vs u H4 f4 nu hu ib => ?_
  rotate_left
  · have f04 := f12.trans f4
    have hlen : vs.length = 23 := ib.len
    refine ⟨_, rfl, _, rfl, _, rfl, _, _, rfl, .inl ⟨_, SqL.of hu, rfl⟩, d, l, row, (vs.length : Nat), rfl, by omega, hd.keep f04, fun v H5 f5 d5 ⟨c, ev, h0, h1⟩ => ?_⟩
    subst ev
    obtain ⟨j, rfl⟩ : ∃ j : Nat, c = (j : Nat) := ⟨c.toNat, by omega⟩
    have hj : j < vs.length := by omega
    have hu5 := f5.kp u _ ((hd.keep f12).nd nu) hu
    obtain ⟨e, he, ie⟩ := ib.get (List.getElem?_eq_getElem hj)
    exact ⟨u, vs, _, _, rfl, rfl, SqL.of hu5, atI_nat (List.getElem?_eq_getElem hj), q _ _ (f04.up.trans f5) d5 ⟨e, ie.mono f5.tu, hbad e (List.mem_of_getElem? he)⟩⟩
  case list =>
    have lk : (bk.kinds.map PyData.str).length ≤ 6 := by rw [List.length_map]; omega
    have lm : (bk.moves.map mvD).length ≤ 8 := by rw [List.length_map]; omega
    have lz6 : (zD bk.kinds.length).length ≤ 6 := by omega
    have cl : ∀ (ds : List PyData) (lo hi : Option Int), (cutP ds lo hi).length ≤ ds.length := fun ds lo hi => by
      unfold cutP
      rw [List.length_take, List.length_drop]
      omega
    have e0 : (bk.kinds.map PyData.str)[0]? = some (.str k0) := by rw [ek]; rfl
    have Vk : ∀ {σ : L2.St}, σ[2]? = some (some (.ref p)) → EvI K (tVar 2) σ H2 (.tuple (bk.kinds.map .str)) := fun e => ei_var e ik2
    have Vm : ∀ {σ : L2.St}, σ[3]? = some (some (.ref r)) → EvI K (tVar 3) σ H2 (.tuple (bk.moves.map mvD)) := fun e => ei_var e im2
    have Vz : ∀ {σ : L2.St}, σ[5]? = some (some z) → EvI K (tVar 5) σ H2 (zT bk.kinds.length) := fun e => ei_var e iz2
    have Vg : ∀ {σ : L2.St}, σ[6]? = some (some g) → EvI K (tVar 6) σ H2 (.tuple (goodD bk.kinds.length)) := fun e => ei_var e ig
    have c1 := cl (bk.kinds.map .str) none (some 1)
    have c2 := cl (zD bk.kinds.length) (some 1) none
    have c3 := cl (goodD bk.kinds.length) (some 1) none
    have lg : (goodD bk.kinds.length).length = 4 := rfl
    unfold badL
    repeat' (first
      | exact eia_nil
      | refine eia_cons ?_ ?_
      | exact Vk rfl
      | exact Vm rfl
      | exact Vz rfl
      | exact Vg rfl
      | exact ei_int
      | exact ei_bl
      | exact ei_non
      | exact ei_str (by decide +kernel)
      | exact ei_neg ei_int
      | exact ei_slice (Vk rfl) eo_none eo_some
      | exact ei_slice (Vg rfl) eo_none eo_some
      | exact ei_slice (Vg rfl) eo_some eo_none
      | exact ei_slice (Vz rfl) eo_some eo_none
      | exact ei_slice (Vz rfl) eo_none eo_neg
      | exact ei_ix (i := 0) (Vk rfl) e0
      | refine ei_tup ?_ ?_
      | refine ei_cat ?_ ?_ ?_
      | refine ei_rep (n := 2) ?_ ei_int ?_ ?_ ?_
      | (simp; done)
      | (simp only [List.length_cons, List.length_nil, List.length_append] at *; omega))
    · have e2 : (List.replicate 2 [PyData.tuple (goodD bk.kinds.length)]).flatten.length = 2 := rfl
      omega
    intro H3 f3 Q' q'
    have log9 : ∀ k < 9, ((k : Nat) : Int).natAbs.log2 < 1920 := by decide
    have len9 : ∀ k < 9, (Str.ofString "z").length + (Str.ofString (toString ((k : Nat) : Int))).length ≤ 1000 := by decide +kernel
    refine ⟨9, rfl, by decide, by decide, fun D nD => lc_fm0 (M := M0) walk_r0 (fun _ _ => trivial) (fun i H x H' y => by rw [y.1]; exact Fm.refl H) (by show 9 < sizeLine; decide) nD (fun z => z)
      (fun i y H => Im K H y (.tuple [.str (Str.ofString "z" ++ Str.ofString (toString ((i : Nat) : Int))), zT bk.kinds.length, zT bk.kinds.length, zT bk.kinds.length])) (fun i y H H' t h => h.mono t) ?_ fun H5 ys f5 eD el hz => ?_⟩
    · rintro k y H4 H5 kk hi hf ⟨rfl, rfl⟩ hk
      have hi : k < 9 := hi
      have zs : (Str.ofString "z" ++ Str.ofString (toString ((k : Nat) : Int))).length ≤ 1000 ∧ PyData.strOk (Str.ofString "z" ++ Str.ofString (toString ((k : Nat) : Int))) = true := by simpa using z_str k hi
      have iz5 := (f3.trans hf).im iz2
      refine ⟨rfl, _, rfl, _, rfl, log9 k hi, _, _, rfl, rfl, Nat.le_trans (len9 k hi) (by decide), _, rfl, _, rfl, _, rfl, (by show 4 ≤ sizeLine; decide), fun t nt => ?_⟩
      have tt : Tu H5 (upd H5 t (.tup [.str (Str.ofString "z" ++ Str.ofString (toString ((k : Nat) : Int))), z, z, z])) := Tu.new nt
      exact hk _ _ (Fm.new nt) (.tup (SqT.of upd_same) (by show 4 ≤ 1000; decide) (.cons (.str zs.1 zs.2) (.cons (iz5.mono tt) (.cons (iz5.mono tt) (.cons (iz5.mono tt) .nil)))))
    · refine ⟨D, ys, rfl, .inl ⟨SqL.of eD, fun t nt => ?_⟩⟩
      have el : ys.length = 9 := el
      refine q' _ _ (f5.trans (Fm.new nt)) (.tup (SqT.of upd_same) (by omega) (ImA.of_get (by rw [el]; simp) fun i y hy => ?_))
      have hi : i < 9 := by rw [← el]; exact (List.getElem?_eq_some_iff.mp hy).1
      refine ⟨_, ?_, (hz i y hy).mono (Tu.new nt)⟩
      rw [List.getElem?_map, List.getElem?_range hi]
      rfl
end

end Mt

namespace Mt
open PySem PySem.Spec PyProof.Rows L2
/-! the plain law -/
open TL
theorem Nm.last {k : Nat} {s : Str} (h : Nm k s) : (tl s).getLast? = some (97 + k) := by
  obtain ⟨c, r, e, _⟩ := h
  rw [e, ← List.cons_append, List.getLast?_append]
  rfl
theorem Nm.inj {i j : Nat} {s : Str} (h : Nm i s) (h' : Nm j s) : i = j := by
  have e := h.last.symm.trans h'.last
  have := Option.some.inj e
  omega
theorem Nm.len {k : Nat} {s : Str} (h : Nm k s) : s.length = 2 ∨ s.length = 3 ∨ s.length = 4 ∨ s.length = 11 := by
  obtain ⟨c, r, e, _, _, hl⟩ := h
  have : s.length = r.length + 2 := by rw [len_tl, e, List.length_cons, List.length_append, List.length_singleton]
  omega
theorem last_sgn : ∀ k < 14, sgn (97 + k) = true := by decide +kernel
theorem res_len : (Str.ofString "kinds").length = 5 ∧ (Str.ofString "nothing").length = 7 ∧ (Str.ofString "endless").length = 7 ∧ (Str.ofString "x").length = 1 := by decide +kernel
theorem Nm.name {k : Nat} {s : Str} (h : Nm k s) (hk : k < 14) : isNameS s = true := by
  have hl := h.len
  obtain ⟨c, r, e, hc, hr, _⟩ := h
  have e' : s.cps.toList = c :: (r ++ [97 + k]) := e
  obtain ⟨l1, l2, l3, l4⟩ := res_len
  have hres : inV (.str s) resV = false := by
    simp only [inV, resV, List.any_cons, List.any_nil, Bool.or_false, Bool.or_eq_false_iff, eqV, beq_eq_false_iff_ne]
    refine ⟨fun z => ?_, fun z => ?_, fun z => ?_, fun z => ?_⟩ <;> (rw [← z] at hl; omega)
  unfold isNameS
  rw [hres, decide_eq_true (p := 1 ≤ s.length) (by omega), decide_eq_true (p := s.length ≤ 12) (by omega), e']
  simp only [Bool.not_false, Bool.true_and, Bool.and_eq_true, decide_eq_true_eq, List.all_eq_true]
  refine ⟨hc, fun x hx => ?_⟩
  rcases List.mem_cons.mp hx with rfl | hx
  · exact List.all_eq_true.mp small_sgn _ hc
  · rcases List.mem_append.mp hx with hx | hx
    · exact hr x hx
    · rw [List.mem_singleton.mp hx]
      exact last_sgn k hk
theorem ent_ok {st : List Int} {n : Nat} {m lo : Int} {hi : Option Int} (h : StOk n m st) (hlo : lo ≤ 0) (hhi : ∀ x, x ≤ m → hiOk hi x = true) : isEnt (stD st) n lo hi = true := by
  simp only [isEnt, stD, Bool.and_eq_true, decide_eq_true_eq, List.all_eq_true, List.length_map]
  refine ⟨by rw [h.1], fun d hd => ?_⟩
  obtain ⟨x, hx, rfl⟩ := List.mem_map.mp hd
  have := h.2 x hx
  simp only [isNum, Bool.and_eq_true, decide_eq_true_eq]
  exact ⟨by omega, hhi x this.2⟩
theorem GB.book {b : Bk} (h : GB 1000 b) : isBook (bkD b) = true := by
  have h1 := h.k1
  have h6 := h.k6
  have h8 := h.m8
  have hhi : ∀ x : Int, x ≤ 1000 → hiOk (some 1000) x = true := fun x hx => decide_eq_true hx
  unfold bkD
  simp only [isBook, Bool.and_eq_true, decide_eq_true_eq, List.length_map]
  refine ⟨⟨⟨⟨⟨h1, h6⟩, h8⟩, ?_⟩, ?_⟩, ?_⟩
  · rw [List.all_eq_true]
    intro d hd
    obtain ⟨s, hs, rfl⟩ := List.mem_map.mp hd
    obtain ⟨k, hk⟩ := List.mem_iff_getElem?.mp hs
    have hk' := (List.getElem?_eq_some_iff.mp hk).1
    exact (h.kn k s hk).name (by omega)
  · rw [List.all_eq_true]
    intro d hd
    obtain ⟨m, hm, rfl⟩ := List.mem_map.mp hd
    obtain ⟨k, hk⟩ := List.mem_iff_getElem?.mp hm
    have hk' := (List.getElem?_eq_some_iff.mp hk).1
    have o := h.mv k m hk
    simp only [mvD, isMove, ent_ok o.take (Int.le_refl 0) hhi, ent_ok o.least (Int.le_refl 0) hhi, ent_ok o.most (Int.le_refl 0) hhi, Bool.and_eq_true]
    refine ⟨⟨o.name.name (by omega), by simp⟩, ?_⟩
    rw [List.all_eq_true]
    intro i hi
    have hi := List.mem_range.mp hi
    have la := o.least.1
    have lb := o.most.1
    have ea : m.least[i]? = some m.least[i] := List.getElem?_eq_getElem (by omega)
    have eb : m.most[i]? = some m.most[i] := List.getElem?_eq_getElem (by omega)
    simp only [leAt, stD, List.getElem?_map, ea, eb, Option.map_some, decide_eq_true_eq]
    exact o.le i _ _ ea eb
  · have eN : bkNames (b.kinds.map .str) (b.moves.map mvD) = b.kinds ++ b.moves.map (·.name) := by
      unfold bkNames
      rw [List.map_map, List.map_map]
      congr 1
      · have : (strD ∘ PyData.str) = id := rfl
        rw [this, List.map_id]
    rw [eN, List.nodup_iff_pairwise_ne, List.pairwise_iff_getElem]
    -- each name tells its place
    have at_ : ∀ i (hi : i < (b.kinds ++ b.moves.map (·.name)).length), Nm (if i < b.kinds.length then i else 6 + (i - b.kinds.length)) ((b.kinds ++ b.moves.map (·.name))[i]) := by
      intro i hi
      by_cases hk : i < b.kinds.length
      · rw [if_pos hk, List.getElem_append_left hk]
        exact h.kn i _ (List.getElem?_eq_getElem hk)
      · rw [if_neg hk, List.getElem_append_right (by omega), List.getElem_map]
        exact (h.mv (i - b.kinds.length) _ (List.getElem?_eq_getElem (by rw [List.length_append, List.length_map] at hi; omega))).name
    intro i j hi hj hij e
    have h1 := at_ i hi
    have h2 := at_ j hj
    rw [e] at h1
    have := h1.inj h2
    split at this <;> split at this <;> omega
/-- the names that are asked -/
theorem GB.index {m : Int} {b : Bk} (h : GB m b) {k : Nat} {v : Mv} (hk : b.moves[k]? = some v) : (b.moves.findIdx? fun x => decide (x.name = v.name)) = some k := by
  rw [List.findIdx?_eq_some_iff_getElem]
  obtain ⟨hk', ek⟩ := List.getElem?_eq_some_iff.mp hk
  refine ⟨hk', by rw [ek]; simp, fun j hj => ?_⟩
  have h1 := (h.mv j _ (List.getElem?_eq_getElem (by omega))).name
  have h2 := (h.mv k v hk).name
  simp only [decide_eq_true_eq]
  intro e
  rw [e] at h1
  have := h1.inj h2
  omega
theorem GB.no_index {m : Int} {b : Bk} (h : GB m b) {y : Str} (hy : ∀ k, ¬ Nm (6 + k) y) : (b.moves.findIdx? fun x => decide (x.name = y)) = none := by
  rw [List.findIdx?_eq_none_iff]
  intro v hv
  obtain ⟨k, hk⟩ := List.mem_iff_getElem?.mp hv
  simp only [decide_eq_false_iff_not]
  intro e
  exact hy k (e ▸ (h.mv k v hk).name)
theorem x1_no (k : Nat) : ¬ Nm k (Str.ofString "x1") := fun h => by
  have := h.last
  have e : (tl (Str.ofString "x1")).getLast? = some 49 := by decide +kernel
  rw [e] at this
  have := Option.some.inj this
  omega
theorem isStep_mono {mv : Nat} : ∀ {n m : Nat} (hnm : n ≤ m) {d : PyData}, isStep mv n d = true → isStep mv m d = true
  | 0, _, _, d, h => by cases h
  | n + 1, 0, hnm, _, _ => absurd hnm (by omega)
  | n + 1, m + 1, hnm, d, h => by
    simp only [isStep] at h ⊢
    unfold isStepD at h ⊢
    split at h
    · exact h
    · simp only [Bool.and_eq_true, decide_eq_true_eq] at h ⊢
      refine ⟨⟨⟨h.1.1.1, by omega⟩, h.1.2⟩, ?_⟩
      have := h.2
      unfold allSteps at this ⊢
      split at this
      · rw [List.all_eq_true] at this ⊢
        exact fun x hx => isStep_mono (by omega) (this x hx)
      · cases this
    · cases h
theorem areSteps_mono {mv n m : Nat} (hnm : n ≤ m) {ds : List PyData} (h : areSteps mv n (.tuple ds) = true) : areSteps mv m (.tuple ds) = true := by
  unfold areSteps allSteps at h ⊢
  rw [List.all_eq_true] at h ⊢
  exact fun x hx => isStep_mono hnm (h x hx)
abbrev lastD : PyData := .tuple [.tuple [.str "do", .int 0]]
theorem nest_yes {mv : Nat} (h : 0 < mv) : ∀ k, areSteps mv (k + 1) (nestD lastD k) = true
  | 0 => by
    simp only [nestD, lastD, areSteps, allSteps, List.all_cons, List.all_nil, isStep_do (mv := mv) (n := 0) (c := 0) (by decide) (by omega)]
    rfl
  | k + 1 => by
    have ih := nest_yes h k
    have ne : isEmp (nestD lastD k) = false := by cases k <;> rfl
    unfold areSteps at ih ⊢
    simp only [nestD, allSteps, List.all_cons, List.all_nil, Bool.and_true]
    simp only [isStep, isStepD, isNum, hiOk, ne]
    simp only [isStep] at ih
    rw [ih]
    rfl
theorem nest_no {mv : Nat} : ∀ k, areSteps mv k (nestD lastD k) = false
  | 0 => rfl
  | k + 1 => by
    have ih := nest_no (mv := mv) k
    unfold areSteps at ih ⊢
    simp only [nestD, allSteps, List.all_cons, List.all_nil, Bool.and_true]
    simp only [isStep, isStepD]
    rw [ih, Bool.and_false]
/-- the spoilt steps -/
def badS (mv : Nat) : List PyData :=
  [.tuple [.str "do", .int mv], .tuple [.str "do", .int (-1)], .tuple [.str "do", .bool true], .tuple [.str "rep", .int 0, lastD], .tuple [.str "rep", .int 2, .tuple []], .tuple [.str "rep", .int 2], .tuple [.str "go", .int 0], .tuple []]
theorem badS_no (mv : Nat) : ∀ d ∈ badS mv, isStep mv 30 d = false := by
  intro d hd
  simp only [badS, List.mem_cons, List.not_mem_nil, or_false] at hd
  rcases hd with rfl | rfl | rfl | rfl | rfl | rfl | rfl | rfl
  · simp only [isStep, isStepD, isNum, hiOk]
    rw [decide_eq_false (p := ((mv : Nat) : Int) ≤ (mv : Nat) - 1) (by omega)]
    simp
  · simp [isStep, isStepD, isNum]
  · simp [isStep, isStepD, isNum]
  · simp [isStep, isStepD, isNum]
  · simp [isStep, isStepD, isEmp]
  · have : decide (Str.ofString "rep" = Str.ofString "do") = false := by decide +kernel
    simp only [isStep, isStepD, this, Bool.false_and]
  · have : decide (Str.ofString "go" = Str.ofString "do") = false := by decide +kernel
    simp only [isStep, isStepD, this, Bool.false_and]
  · rfl
/-- stocks that are spoilt: wrong, endless -/
def wrongS (st : List Int) : List PyData :=
  [.tuple (st.map .int ++ [.int 0]), .tuple (cutP (st.map .int) none (some (-1)) ++ [.int (-2)]), .tuple (cutP (st.map .int) none (some (-1)) ++ [.bool true]), .tuple (cutP (st.map .int) none (some (-1))), .none]
theorem sIxM (n : Nat) : HT.sIx n n (some (-1)) = n - 1 := by
  have e : HT.sIx n n (some (-1)) = ((-1 : Int) + (n : Int)).toNat := by simp [HT.sIx]
  rw [e]
  omega
theorem cutM (ds : List PyData) : cutP ds none (some (-1)) = ds.dropLast := by
  unfold cutP
  rw [HT.sIx_none, List.drop_zero, sIxM, Nat.sub_zero, List.dropLast_eq_take]
theorem wrong_no {n : Nat} {m : Int} {st : List Int} (h : StOk n m st) (hn : 1 ≤ n) {lo : Int} (hlo : lo = 0 ∨ lo = -1) : ∀ d ∈ wrongS st, isEnt d n lo none = false := by
  have hl := h.1
  have last_bad : ∀ (ds : List PyData) (e : PyData), isNum e lo none = false → isEnt (.tuple (ds ++ [e])) n lo none = false := fun ds e he => by
    simp only [isEnt, List.all_append, List.all_cons, he]
    simp
  intro d hd
  simp only [wrongS, List.mem_cons, List.not_mem_nil, or_false] at hd
  rcases hd with rfl | rfl | rfl | rfl | rfl
  · simp only [isEnt]
    rw [decide_eq_false (by rw [List.length_append, List.length_map, List.length_singleton]; omega)]
    rfl
  · refine last_bad _ _ ?_
    simp only [isNum]
    rw [decide_eq_false (by omega)]
    rfl
  · exact last_bad _ _ rfl
  · simp only [isEnt]
    rw [decide_eq_false (by rw [cutM, List.length_dropLast, List.length_map]; omega)]
    rfl
  · rfl
theorem endless_no {n : Nat} {m : Int} {st : List Int} (h : StOk n m st) (hn : 1 ≤ n) : isEnt (.tuple (cutP (st.map .int) none (some (-1)) ++ [.int (-1)])) n 0 none = false := by
  simp only [isEnt, List.all_append, List.all_cons, isNum]
  rw [decide_eq_false (p := (0 : Int) ≤ -1) (by decide)]
  simp
theorem endless_yes {n : Nat} {m : Int} {st : List Int} (h : StOk n m st) (hn : 1 ≤ n) : isEnt (.tuple (cutP (st.map .int) none (some (-1)) ++ [.int (-1)])) n (-1) none = true := by
  simp only [isEnt, Bool.and_eq_true, decide_eq_true_eq, List.all_eq_true]
  refine ⟨by rw [List.length_append, cutM, List.length_dropLast, List.length_map, List.length_singleton, h.1]; omega, fun d hd => ?_⟩
  rcases List.mem_append.mp hd with hd | hd
  · rw [cutM] at hd
    obtain ⟨x, hx, rfl⟩ := List.mem_map.mp ((List.dropLast_sublist _).mem hd)
    have := h.2 x hx
    simp only [isNum, hiOk, Bool.and_true, decide_eq_true_eq]
    omega
  · rw [List.mem_singleton.mp hd]
    rfl
/-- the signs that no name has -/
def oddS : Str := "_-.,;:()+> 'AZ"
theorem odd_len : (tl oddS).length = 14 := by decide +kernel
theorem odd_no : ∀ c ∈ tl oddS, isNameS (Str.ofString "a" ++ ⟨#[c]⟩ ++ Str.ofString "b") = false ∧ isNameS (Str.ofString "ab" ++ ⟨#[c]⟩) = false ∧
    (decide ((Str.ofString "a" ++ ⟨#[c]⟩ ++ Str.ofString "b").length ≤ 1000) && PyData.strOk (Str.ofString "a" ++ ⟨#[c]⟩ ++ Str.ofString "b")) = true ∧ (decide ((Str.ofString "ab" ++ ⟨#[c]⟩).length ≤ 1000) && PyData.strOk (Str.ofString "ab" ++ ⟨#[c]⟩)) = true := by
  decide +kernel

end Mt

namespace Mt
open PySem PySem.Spec PyProof.Rows L2
/-! the law -/
open TL
/-- the names that the law asks, with what is due -/
def nmL (s1 s2 : Str) : List PyData :=
  [.tuple [.str "kinds", .bool false], .tuple [.str "x", .bool false], .tuple [.str "", .bool false], .tuple [.str "a", .bool true], .tuple [.str "1a", .bool false], .tuple [.str "abcdefghijkl", .bool true],
   .tuple [.str "abcdefghijklm", .bool false], .tuple [.str "aB", .bool false], .tuple [.int 7, .bool false], .tuple [.str "x1", .bool true], .tuple [.none, .bool false], .tuple [.str "nothing", .bool false],
   .tuple [.str "endless", .bool false], .tuple [.str s1, .bool false], .tuple [.str s2, .bool false]]
theorem nm_due {s1 s2 : Str} (h1 : isNameS s1 = false) (h2 : isNameS s2 = false) : ∀ e ∈ nmL s1 s2, ∃ d b, e = .tuple [d, .bool b] ∧ isName d = b := by
  intro e he
  simp only [nmL, List.mem_cons, List.not_mem_nil, or_false] at he
  rcases he with rfl | rfl | rfl | rfl | rfl | rfl | rfl | rfl | rfl | rfl | rfl | rfl | rfl | rfl | rfl
  · exact ⟨_, _, rfl, by decide +kernel⟩
  · exact ⟨_, _, rfl, by decide +kernel⟩
  · exact ⟨_, _, rfl, by decide +kernel⟩
  · exact ⟨_, _, rfl, by decide +kernel⟩
  · exact ⟨_, _, rfl, by decide +kernel⟩
  · exact ⟨_, _, rfl, by decide +kernel⟩
  · exact ⟨_, _, rfl, by decide +kernel⟩
  · exact ⟨_, _, rfl, by decide +kernel⟩
  · exact ⟨_, _, rfl, by decide +kernel⟩
  · exact ⟨_, _, rfl, by decide +kernel⟩
  · exact ⟨_, _, rfl, by decide +kernel⟩
  · exact ⟨_, _, rfl, by decide +kernel⟩
  · exact ⟨_, _, rfl, by decide +kernel⟩
  · exact ⟨_, _, rfl, h1⟩
  · exact ⟨_, _, rfl, h2⟩
/-- what stands through the law: the draws, the book -/
structure LW (K : PySem.W.Frag) (d l : Addr) (row : List Int) (bk : Bk) (ba bp bq : Addr) (ks ms : List V) (H : Hp) : Prop where
  ib : Im K H (.ref ba) (bkD bk)
  dr : Dr d l row H
  ha : SqT K H ba [.ref bp, .ref bq]
  hp : SqT K H bp ks
  hq : SqT K H bq ms
  jk : ImA K H ks (bk.kinds.map .str)
  jm : ImA K H ms (bk.moves.map mvD)
theorem LW.tu {K : PySem.W.Frag} {d l : Addr} {row : List Int} {bk : Bk} {ba bp bq : Addr} {ks ms : List V} {H H' : Hp} (h : LW K d l row bk ba bp bq ks ms H) (t : Tu H H') (d' : Dr d l row H') : LW K d l row bk ba bp bq ks ms H' :=
  ⟨h.ib.mono t, d', t.seq h.ha, t.seq h.hp, t.seq h.hq, h.jk.mono t, h.jm.mono t⟩
theorem LW.m0 {K : PySem.W.Frag} {d l : Addr} {row : List Int} {bk : Bk} {ba bp bq : Addr} {ks ms : List V} {H H' : Hp} (h : LW K d l row bk ba bp bq ks ms H) (f : Fm M0 H H') : LW K d l row bk ba bp bq ks ms H' := h.tu f.tu (h.dr.keep f)
section
variable {P : Program} {w : World} {K : PySem.W.Frag} {mg : Str → Option Value} {base : Heap}
theorem ok_law (W : Wd K mg) : FnOk P w K mg base CX0 65 W.a_law W.d_law ["script"] (sp_law K) := by
  have nd := sc_law.nd
  refine W.D_law.F.ok sc_law (fun vs H Q E h => ?_) (fun cdv A outer s H vs Q E hr h => ?_)
  · obtain ⟨a, ns, rfl, _⟩ := h
    rfl
  obtain ⟨a, ns, rfl, hS, h63, q⟩ := h
  refine ⟨_, (pss_cons (ps_set (i := 1) nd rfl (Or.inl rfl) (pe_call (ok_law_draws W) (hr.mono (by decide)) (by rfl) W.D__law_draws.m W.D__law_draws.F.kp W.D__law_draws.b .nil pass0 (pa_cons (pv 0) (pa_cons pe_int pa_nil))))
      (pss_cons (ps_set (i := 2) nd rfl (Or.inl rfl) (pe_call (ok_law_book W) (hr.mono (by decide)) (by rfl) W.D__law_book.m W.D__law_book.F.kp W.D__law_book.b .nil pass0 (pa_cons (pv 1) (pa_cons pe_int pa_nil))))
      (pss_cons (ps_set (i := 3) nd rfl (Or.inl rfl) (pe_callB call_len (by rfl) W.n_len bt_len (pa_cons (pe_ix ix_tup (pv 2) pe_int (fun _ _ => rfl)) pa_nil)))
      (pss_cons (ps_if (PW.pt (pw_or (pt_cmpR op_notBl (pe_call (ok_is_book W) (hr.mono (by decide)) (by rfl) W.D_is_book.m W.D_is_book.F.kp W.D_is_book.b .nil pass0 (pa_cons (pv 2) pa_nil)) pe_bl (nomark _)) (pw_or1 (pt_cmpR op_notBl (pe_call (ok_is_book W) (hr.mono (by decide)) (by rfl) W.D_is_book.m W.D_is_book.F.kp W.D_is_book.b .nil pass0 (pa_cons (pe_call (ok_law_bad_book W) (hr.mono (by decide)) (by rfl) W.D__law_bad_book.m W.D__law_bad_book.F.kp W.D__law_bad_book.b .nil pass0 (pa_cons (pv 1) (pa_cons (pv 2) pa_nil))) pa_nil)) pe_bl (nomark _)))))
        (pss_one (ps_ret pe_bl))
        pss_nil)
      (pss_cons (ps_for PassesOwn.never rfl (pi_list (pe_lst (pa_cons (pe_tup (pa_cons pe_str (pa_cons pe_bl pa_nil))) (pa_cons (pe_tup (pa_cons pe_str (pa_cons pe_bl pa_nil))) (pa_cons (pe_tup (pa_cons pe_str (pa_cons pe_bl pa_nil))) (pa_cons (pe_tup (pa_cons pe_str (pa_cons pe_bl pa_nil))) (pa_cons (pe_tup (pa_cons pe_str (pa_cons pe_bl pa_nil))) (pa_cons (pe_tup (pa_cons pe_str (pa_cons pe_bl pa_nil))) (pa_cons (pe_tup (pa_cons pe_str (pa_cons pe_bl pa_nil))) (pa_cons (pe_tup (pa_cons pe_str (pa_cons pe_bl pa_nil))) (pa_cons (pe_tup (pa_cons pe_int (pa_cons pe_bl pa_nil))) (pa_cons (pe_tup (pa_cons pe_str (pa_cons pe_bl pa_nil))) (pa_cons (pe_tup (pa_cons pe_non (pa_cons pe_bl pa_nil))) (pa_cons (pe_tup (pa_cons pe_str (pa_cons pe_bl pa_nil))) (pa_cons (pe_tup (pa_cons pe_str (pa_cons pe_bl pa_nil))) (pa_cons (pe_tup (pa_cons (pe_op op_add_str (pe_op op_add_str pe_str (pe_ix ix_str pe_str (pe_call (ok_law_take W) (hr.mono (by decide)) (by rfl) W.D__law_take.m W.D__law_take.F.kp W.D__law_take.b .nil pass0 (pa_cons (pv 1) (pa_cons pe_int pa_nil))) (fun _ _ => rfl))) pe_str) (pa_cons pe_bl pa_nil))) (pa_cons (pe_tup (pa_cons (pe_op op_add_str pe_str (pe_ix ix_str pe_str (pe_call (ok_law_take W) (hr.mono (by decide)) (by rfl) W.D__law_take.m W.D__law_take.F.kp W.D__law_take.b .nil pass0 (pa_cons (pv 1) (pa_cons pe_int pa_nil))) (fun _ _ => rfl))) (pa_cons pe_bl pa_nil))) pa_nil))))))))))))))))) (pg_tup rfl (pgs_cons (pg_name (i := 4) nd rfl (Or.inl rfl)) (pgs_cons (pg_name (i := 5) nd rfl (Or.inl rfl)) pgs_nil)))
        (pss_cons (ps_set (i := 6) nd rfl (Or.inl rfl) (pe_call (ok_is_name W) (hr.mono (by decide)) (by rfl) W.D_is_name.m W.D_is_name.F.kp W.D_is_name.b .nil pass0 (pa_cons (pv 4) pa_nil)))
        (pss_one (ps_if (PW.pt (pw_or (pt_not (pt_val (pe_callB (call_isD (T := "bool") (by decide)) (by rfl) W.n_isinstance bt_isinstance (pa_cons (pv 6) (pa_cons (pe_bltn (v := .ty "bool") (by rfl) W.n_bool bt_bool rfl) pa_nil))))) (pw_or1 (pt_not (pt_val (pe_call (ok_law_same W 1) (hr.mono (by decide)) (by rfl) W.D__law_same.m W.D__law_same.F.kp W.D__law_same.b .nil pass0 (pa_cons (pv 6) (pa_cons (pv 5) pa_nil))))))))
          (pss_one (ps_ret pe_bl))
          pss_nil))))
      (pss_cons (ps_set (i := 7) nd rfl (Or.inl rfl) (pe_call (ok_law_stock W) (hr.mono (by decide)) (by rfl) W.D__law_stock.m W.D__law_stock.F.kp W.D__law_stock.b .nil pass0 (pa_cons (pv 1) (pa_cons (pv 3) (pa_cons (pe_op op_pow pe_int pe_int) pa_nil)))))
      (pss_cons (ps_if (PW.pt (pw_or (pt_cmpR op_notBl (pe_call (ok_is_stock W) (hr.mono (by decide)) (by rfl) W.D_is_stock.m W.D_is_stock.F.kp W.D_is_stock.b .nil pass0 (pa_cons (pv 2) (pa_cons (pv 7) pa_nil))) pe_bl (nomark _)) (pw_or1 (pt_cmpR op_notBl (pe_call (ok_is_extended W) (hr.mono (by decide)) (by rfl) W.D_is_extended.m W.D_is_extended.F.kp W.D_is_extended.b .nil pass0 (pa_cons (pv 2) (pa_cons (pv 7) pa_nil))) pe_bl (nomark _)))))
        (pss_one (ps_ret pe_bl))
        pss_nil)
      (pss_cons (ps_set (i := 8) nd rfl (Or.inl rfl) (pe_ix ix_list (pe_lst (pa_cons (pe_op op_catA (pv 7) (pe_tup (pa_cons pe_int pa_nil))) (pa_cons (pe_op op_catA (pe_slice sl_tupA (pv 7) po_none (po_some (pe_un un_neg pe_int))) (pe_tup (pa_cons (pe_un un_neg pe_int) pa_nil))) (pa_cons (pe_op op_catA (pe_slice sl_tupA (pv 7) po_none (po_some (pe_un un_neg pe_int))) (pe_tup (pa_cons pe_bl pa_nil))) (pa_cons (pe_slice sl_tupA (pv 7) po_none (po_some (pe_un un_neg pe_int))) (pa_cons pe_non pa_nil)))))) (pe_call (ok_law_take W) (hr.mono (by decide)) (by rfl) W.D__law_take.m W.D__law_take.F.kp W.D__law_take.b .nil pass0 (pa_cons (pv 1) (pa_cons pe_int pa_nil))) (fun _ _ => rfl)))
      (pss_cons (ps_set (i := 9) nd rfl (Or.inl rfl) (pe_op op_catA (pe_slice sl_tupA (pv 7) po_none (po_some (pe_un un_neg pe_int))) (pe_tup (pa_cons (pe_un un_neg pe_int) pa_nil))))
      (pss_cons (ps_if (PW.pt (pw_or (pt_cmpR op_notBl (pe_call (ok_is_stock W) (hr.mono (by decide)) (by rfl) W.D_is_stock.m W.D_is_stock.F.kp W.D_is_stock.b .nil pass0 (pa_cons (pv 2) (pa_cons (pv 8) pa_nil))) pe_bl (nomark _)) (pw_or1 (pt_cmpR op_notBl (pe_call (ok_is_extended W) (hr.mono (by decide)) (by rfl) W.D_is_extended.m W.D_is_extended.F.kp W.D_is_extended.b .nil pass0 (pa_cons (pv 2) (pa_cons (pv 8) pa_nil))) pe_bl (nomark _)))))
        (pss_one (ps_ret pe_bl))
        pss_nil)
      (pss_cons (ps_if (PW.pt (pw_or (pt_cmpR op_notBl (pe_call (ok_is_stock W) (hr.mono (by decide)) (by rfl) W.D_is_stock.m W.D_is_stock.F.kp W.D_is_stock.b .nil pass0 (pa_cons (pv 2) (pa_cons (pv 9) pa_nil))) pe_bl (nomark _)) (pw_or1 (pt_cmpR op_notBl (pe_call (ok_is_extended W) (hr.mono (by decide)) (by rfl) W.D_is_extended.m W.D_is_extended.F.kp W.D_is_extended.b .nil pass0 (pa_cons (pv 2) (pa_cons (pv 9) pa_nil))) pe_bl (nomark _)))))
        (pss_one (ps_ret pe_bl))
        pss_nil)
      (pss_cons (ps_for PassesOwn.never rfl (pi_range1 rfl W.n_range (pa_cons (pe_callB call_len (by rfl) W.n_len bt_len (pa_cons (pe_ix ix_tup (pv 2) pe_int (fun _ _ => rfl)) pa_nil)) pa_nil)) (pg_name (i := 10) nd rfl (Or.inl rfl))
        (pss_one (ps_if (pt_not (pt_val (pe_call (ok_law_same W 1) (hr.mono (by decide)) (by rfl) W.D__law_same.m W.D__law_same.F.kp W.D__law_same.b .nil pass0 (pa_cons (pe_call (ok_move_index W) (hr.mono (by decide)) (by rfl) W.D_move_index.m W.D_move_index.F.kp W.D_move_index.b .nil pass0 (pa_cons (pv 2) (pa_cons (pe_ix ix_tup (pe_ix ix_tup (pe_ix ix_tup (pv 2) pe_int (fun _ _ => rfl)) (pv 10) (fun _ _ => rfl)) pe_int (fun _ _ => rfl)) pa_nil))) (pa_cons (pv 10) pa_nil)))))
          (pss_one (ps_ret pe_bl))
          pss_nil)))
      (pss_cons (ps_if (PW.pt (pw_or (pt_cmpR op_notN (pe_call (ok_move_index W) (hr.mono (by decide)) (by rfl) W.D_move_index.m W.D_move_index.F.kp W.D_move_index.b .nil pass0 (pa_cons (pv 2) (pa_cons (pe_ix ix_tup (pe_ix ix_tup (pv 2) pe_int (fun _ _ => rfl)) pe_int (fun _ _ => rfl)) pa_nil))) pe_non (nomark _)) (pw_or1 (pt_cmpR op_notN (pe_call (ok_move_index W) (hr.mono (by decide)) (by rfl) W.D_move_index.m W.D_move_index.F.kp W.D_move_index.b .nil pass0 (pa_cons (pv 2) (pa_cons pe_str pa_nil))) pe_non (nomark _)))))
        (pss_one (ps_ret pe_bl))
        pss_nil)
      (pss_cons (ps_set (i := 11) nd rfl (Or.inl rfl) (pe_call (ok_law_run W 4) (hr.mono (by decide)) (by rfl) W.D__law_run.m W.D__law_run.F.kp W.D__law_run.b .nil pass0 (pa_cons (pv 1) (pa_cons (pe_callB call_len (by rfl) W.n_len bt_len (pa_cons (pe_ix ix_tup (pv 2) pe_int (fun _ _ => rfl)) pa_nil)) (pa_cons pe_int (pa_cons (pe_op op_pow pe_int pe_int) pa_nil))))))
      (pss_cons (ps_if (PW.pt (pw_or (pt_cmpR op_notBl (pe_call (ok_is_run W) (hr.mono (by decide)) (by rfl) W.D_is_run.m W.D_is_run.F.kp W.D_is_run.b .nil pass0 (pa_cons (pv 2) (pa_cons (pv 11) pa_nil))) pe_bl (nomark _)) (pw_or1 (pt_cmpR op_notBl (pe_call (ok_is_run W) (hr.mono (by decide)) (by rfl) W.D_is_run.m W.D_is_run.F.kp W.D_is_run.b .nil pass0 (pa_cons (pv 2) (pa_cons (pe_tup pa_nil) pa_nil))) pe_bl (nomark _)))))
        (pss_one (ps_ret pe_bl))
        pss_nil)
      (pss_cons (ps_set (i := 12) nd rfl (Or.inl rfl) (pe_lst (pa_cons (pe_tup (pa_cons pe_str (pa_cons (pe_callB call_len (by rfl) W.n_len bt_len (pa_cons (pe_ix ix_tup (pv 2) pe_int (fun _ _ => rfl)) pa_nil)) pa_nil))) (pa_cons (pe_tup (pa_cons pe_str (pa_cons (pe_un un_neg pe_int) pa_nil))) (pa_cons (pe_tup (pa_cons pe_str (pa_cons pe_bl pa_nil))) (pa_cons (pe_tup (pa_cons pe_str (pa_cons pe_int (pa_cons (pe_tup (pa_cons (pe_tup (pa_cons pe_str (pa_cons pe_int pa_nil))) pa_nil)) pa_nil)))) (pa_cons (pe_tup (pa_cons pe_str (pa_cons pe_int (pa_cons (pe_tup pa_nil) pa_nil)))) (pa_cons (pe_tup (pa_cons pe_str (pa_cons pe_int pa_nil))) (pa_cons (pe_tup (pa_cons pe_str (pa_cons pe_int pa_nil))) (pa_cons (pe_tup pa_nil) pa_nil))))))))))
      (pss_cons (ps_if (pt_cmpR op_notBl (pe_call (ok_is_run W) (hr.mono (by decide)) (by rfl) W.D_is_run.m W.D_is_run.F.kp W.D_is_run.b .nil pass0 (pa_cons (pv 2) (pa_cons (pe_op op_catA (pv 11) (pe_tup (pa_cons (pe_ix ix_list (pv 12) (pe_call (ok_law_take W) (hr.mono (by decide)) (by rfl) W.D__law_take.m W.D__law_take.F.kp W.D__law_take.b .nil pass0 (pa_cons (pv 1) (pa_cons (pe_callB call_len (by rfl) W.n_len bt_len (pa_cons (pv 12) pa_nil)) pa_nil))) (fun _ _ => rfl)) pa_nil))) pa_nil))) pe_bl (nomark _))
        (pss_one (ps_ret pe_bl))
        pss_nil)
      (pss_cons (ps_if (pt_cmpR op_eq (pe_callB call_len (by rfl) W.n_len bt_len (pa_cons (pe_ix ix_tup (pv 2) pe_int (fun _ _ => rfl)) pa_nil)) pe_int (nomark _))
        (pss_one (ps_ret pe_bl))
        pss_nil)
      (pss_cons (ps_set (i := 13) nd rfl (Or.inl rfl) (pe_tup (pa_cons (pe_tup (pa_cons pe_str (pa_cons pe_int pa_nil))) pa_nil)))
      (pss_one (ps_ret (pe_and (pe_cmpR op_isBl (pe_call (ok_is_run W) (hr.mono (by decide)) (by rfl) W.D_is_run.m W.D_is_run.F.kp W.D_is_run.b .nil pass0 (pa_cons (pv 2) (pa_cons (pe_call (ok_law_nested W) (hr.mono (by decide)) (by rfl) W.D__law_nested.m W.D__law_nested.F.kp W.D__law_nested.b .nil pass0 (pa_cons (pv 13) (pa_cons pe_int pa_nil))) pa_nil))) pe_bl (nomark _)) (pe_one (pe_cmpR op_isBl (pe_call (ok_is_run W) (hr.mono (by decide)) (by rfl) W.D_is_run.m W.D_is_run.F.kp W.D_is_run.b .nil pass0 (pa_cons (pv 2) (pa_cons (pe_call (ok_law_nested W) (hr.mono (by decide)) (by rfl) W.D__law_nested.m W.D__law_nested.F.kp W.D__law_nested.b .nil pass0 (pa_cons (pv 13) (pa_cons pe_int pa_nil))) pa_nil))) pe_bl (nomark _))))))))))))))))))))))))), ?_⟩
  -- draws, book, n
  refine ⟨_, rfl, a, ns, 160, rfl, hS, h63, by decide, by decide, fun H1 d l row f1 d1 => ?_⟩
  refine ⟨_, rfl, d, l, row, 1000, rfl, by decide, d1, fun bv H2 f2 d2 ⟨bk, ib, gb⟩ => ?_⟩
  obtain ⟨ba, bp, bq, ks, ms, rfl, hba, hbp, hks, hbq, hms, zk, zm⟩ := bk_parts ib
  have lk : ks.length = bk.kinds.length := by rw [hks.len, List.length_map]
  have lm : ms.length = bk.moves.length := by rw [hms.len, List.length_map]
  have hk1 := gb.k1
  have hk6 := gb.k6
  have hm8 := gb.m8
  refine ⟨_, rfl, ba, _, 0, _, rfl, rfl, hba, atI_nat (j := 0) rfl, .ref bp, _, rfl, .inr ⟨_, hbp, rfl⟩, ?_⟩
  rw [lk]
  -- is_book
  refine ⟨_, rfl, _, _, rfl, ib, fun H3 f3 => ⟨_, _, rfl, rfl, _, rfl, ?_⟩⟩
  rw [gb.book]
  refine iteF ?_
  have L3 := (LW.mk ib d2 hba hbp hbq hks hms).m0 f3
  refine ⟨_, rfl, _, rfl, d, l, row, _, bk, 1000, rfl, L3.ib, gb, L3.dr, fun v H4 f4 d4 ⟨e, ie, he⟩ => ⟨v, e, rfl, ie, fun H5 f5 => ⟨_, _, rfl, rfl, _, rfl, ?_⟩⟩⟩
  rw [he]
  refine iteF (tnx ?_)
  have L5 := (L3.tu f4.tu d4).m0 f5
  clear f1 f2 f3 f4 f5 d1 d2 d4 ie he L3 ib hba hbp hbq
  -- for name, due in [..]
  refine forL ?_
  refine eia_step (K := K) (ei_tup (eia_cons (ei_str (by decide +kernel)) (eia_cons ei_bl eia_nil)) (by simp)) fun v1 G1 g1 i1 => ?_
  refine eia_step (K := K) (ei_tup (eia_cons (ei_str (by decide +kernel)) (eia_cons ei_bl eia_nil)) (by simp)) fun v2 G2 g2 i2 => ?_
  refine eia_step (K := K) (ei_tup (eia_cons (ei_str (by decide +kernel)) (eia_cons ei_bl eia_nil)) (by simp)) fun v3 G3 g3 i3 => ?_
  refine eia_step (K := K) (ei_tup (eia_cons (ei_str (by decide +kernel)) (eia_cons ei_bl eia_nil)) (by simp)) fun v4 G4 g4 i4 => ?_
  refine eia_step (K := K) (ei_tup (eia_cons (ei_str (by decide +kernel)) (eia_cons ei_bl eia_nil)) (by simp)) fun v5 G5 g5 i5 => ?_
  refine eia_step (K := K) (ei_tup (eia_cons (ei_str (by decide +kernel)) (eia_cons ei_bl eia_nil)) (by simp)) fun v6 G6 g6 i6 => ?_
  refine eia_step (K := K) (ei_tup (eia_cons (ei_str (by decide +kernel)) (eia_cons ei_bl eia_nil)) (by simp)) fun v7 G7 g7 i7 => ?_
  refine eia_step (K := K) (ei_tup (eia_cons (ei_str (by decide +kernel)) (eia_cons ei_bl eia_nil)) (by simp)) fun v8 G8 g8 i8 => ?_
  refine eia_step (K := K) (ei_tup (eia_cons ei_int (eia_cons ei_bl eia_nil)) (by simp)) fun v9 G9 g9 i9 => ?_
  refine eia_step (K := K) (ei_tup (eia_cons (ei_str (by decide +kernel)) (eia_cons ei_bl eia_nil)) (by simp)) fun v10 G10 g10 i10 => ?_
  refine eia_step (K := K) (ei_tup (eia_cons ei_non (eia_cons ei_bl eia_nil)) (by simp)) fun v11 G11 g11 i11 => ?_
  refine eia_step (K := K) (ei_tup (eia_cons (ei_str (by decide +kernel)) (eia_cons ei_bl eia_nil)) (by simp)) fun v12 G12 g12 i12 => ?_
  refine eia_step (K := K) (ei_tup (eia_cons (ei_str (by decide +kernel)) (eia_cons ei_bl eia_nil)) (by simp)) fun v13 G13 g13 i13 => ?_
  have gall := ((((((((((((g1.trans g2).trans g3).trans g4).trans g5).trans g6).trans g7).trans g8).trans g9).trans g10).trans g11).trans g12).trans g13)
  have L13 := L5.m0 gall
  have j13 : ImA K G13 [v1, v2, v3, v4, v5, v6, v7, v8, v9, v10, v11, v12, v13] ((nmL "" "").take 13) := by
    have j1 : ImA K G1 [v1] ((nmL "" "").take 1) := .cons i1 .nil
    have j2 : ImA K G2 [v1, v2] ((nmL "" "").take 2) := (j1.mono g2.tu).snoc i2
    have j3 : ImA K G3 [v1, v2, v3] ((nmL "" "").take 3) := (j2.mono g3.tu).snoc i3
    have j4 : ImA K G4 [v1, v2, v3, v4] ((nmL "" "").take 4) := (j3.mono g4.tu).snoc i4
    have j5 : ImA K G5 [v1, v2, v3, v4, v5] ((nmL "" "").take 5) := (j4.mono g5.tu).snoc i5
    have j6 : ImA K G6 [v1, v2, v3, v4, v5, v6] ((nmL "" "").take 6) := (j5.mono g6.tu).snoc i6
    have j7 : ImA K G7 [v1, v2, v3, v4, v5, v6, v7] ((nmL "" "").take 7) := (j6.mono g7.tu).snoc i7
    have j8 : ImA K G8 [v1, v2, v3, v4, v5, v6, v7, v8] ((nmL "" "").take 8) := (j7.mono g8.tu).snoc i8
    have j9 : ImA K G9 [v1, v2, v3, v4, v5, v6, v7, v8, v9] ((nmL "" "").take 9) := (j8.mono g9.tu).snoc i9
    have j10 : ImA K G10 [v1, v2, v3, v4, v5, v6, v7, v8, v9, v10] ((nmL "" "").take 10) := (j9.mono g10.tu).snoc i10
    have j11 : ImA K G11 [v1, v2, v3, v4, v5, v6, v7, v8, v9, v10, v11] ((nmL "" "").take 11) := (j10.mono g11.tu).snoc i11
    have j12 : ImA K G12 [v1, v2, v3, v4, v5, v6, v7, v8, v9, v10, v11, v12] ((nmL "" "").take 12) := (j11.mono g12.tu).snoc i12
    exact (j12.mono g13.tu).snoc i13
  clear g1 g2 g3 g4 g5 g6 g7 g8 g9 g10 g11 g12 g13 gall i1 i2 i3 i4 i5 i6 i7 i8 i9 i10 i11 i12 i13 L5
  -- the two odd names
  refine ⟨_, rfl, d, l, row, 14, rfl, by decide, L13.dr, fun v G14 f14 d14 ⟨c, ev, h0, h1⟩ => ?_⟩
  subst ev
  obtain ⟨x, hx, ex⟩ := pickN (ys := tl oddS) h0 (by rw [odd_len]; exact h1)
  obtain ⟨n1, _, o1, _⟩ := odd_no x hx
  have o1 : (Str.ofString "a" ++ ⟨#[x]⟩ ++ Str.ofString "b").length ≤ 1000 ∧ PyData.strOk (Str.ofString "a" ++ ⟨#[x]⟩ ++ Str.ofString "b") = true := by simpa using o1
  refine ⟨oddS, c, x, rfl, rfl, by decide +kernel, ex, _, _, rfl, rfl, (by show (Str.ofString "a").length + 1 ≤ sizeLine; decide +kernel), _, _, rfl, rfl, ?sz1, (by show 2 ≤ sizeLine; decide), fun p14 np14 => ?_⟩
  case sz1 =>
    refine Nat.le_trans ?_ (show 1000 ≤ sizeLine by decide)
    have := o1.1
    rw [len_tl, tl_append, List.length_append, ← len_tl, ← len_tl] at this
    exact this
  have f15 := f14.newD (o := .tup [.str (Str.ofString "a" ++ ⟨#[x]⟩ ++ Str.ofString "b"), .bl false]) np14
  have L15 := L13.tu f15.tu (d14.new np14)
  have j14 : ImA K _ _ ((nmL (Str.ofString "a" ++ ⟨#[x]⟩ ++ Str.ofString "b") "").take 14) := (j13.mono f15.tu).snoc (.tup (SqT.of (upd_same (H := G14) (a := p14) (o := .tup [.str (Str.ofString "a" ++ ⟨#[x]⟩ ++ Str.ofString "b"), .bl false]))) (by show 2 ≤ 1000; decide) (.cons (.str o1.1 o1.2) (.cons (.bl false) .nil)))
  refine ⟨_, rfl, d, l, row, 14, rfl, by decide, L15.dr, fun v G16 f16 d16 ⟨c2, ev, h02, h12⟩ => ?_⟩
  subst ev
  obtain ⟨y, hy, ey⟩ := pickN (ys := tl oddS) h02 (by rw [odd_len]; exact h12)
  obtain ⟨_, n2, _, o2⟩ := odd_no y hy
  have o2 : (Str.ofString "ab" ++ ⟨#[y]⟩).length ≤ 1000 ∧ PyData.strOk (Str.ofString "ab" ++ ⟨#[y]⟩) = true := by simpa using o2
  refine ⟨oddS, c2, y, rfl, rfl, by decide +kernel, ey, _, _, rfl, rfl, (by show (Str.ofString "ab").length + 1 ≤ sizeLine; decide +kernel), (by show 2 ≤ sizeLine; decide), fun p16 np16 => ?_⟩
  have f17 := f16.newD (o := .tup [.str (Str.ofString "ab" ++ ⟨#[y]⟩), .bl false]) np16
  have L17 := L15.tu f17.tu (d16.new np16)
  have j15 : ImA K _ _ (nmL (Str.ofString "a" ++ ⟨#[x]⟩ ++ Str.ofString "b") (Str.ofString "ab" ++ ⟨#[y]⟩)) := (j14.mono f17.tu).snoc (.tup (SqT.of (upd_same (H := G16) (a := p16) (o := .tup [.str (Str.ofString "ab" ++ ⟨#[y]⟩), .bl false]))) (by show 2 ≤ 1000; decide) (.cons (.str o2.1 o2.2) (.cons (.bl false) .nil)))
  generalize Str.ofString "a" ++ ⟨#[x]⟩ ++ Str.ofString "b" = s1 at j15 n1 ⊢
  generalize Str.ofString "ab" ++ ⟨#[y]⟩ = s2 at j15 n2 L17 ⊢
  have hdue := nm_due n1 n2
  generalize nmL s1 s2 = due at j15 hdue
  refine ⟨(by show 15 ≤ sizeLine; decide), fun pl npl => ?_⟩
  have L18 := L17.m0 (Fm.new (o' := HO.lst [v1, v2, v3, v4, v5, v6, v7, v8, v9, v10, v11, v12, v13, V.ref p14, V.ref p16]) npl)
  have j18 : ImA K _ [v1, v2, v3, v4, v5, v6, v7, v8, v9, v10, v11, v12, v13, V.ref p14, V.ref p16] due := j15.mono (Tu.new (o' := HO.lst [v1, v2, v3, v4, v5, v6, v7, v8, v9, v10, v11, v12, v13, V.ref p14, V.ref p16]) npl)
  have e18 : upd (upd G16 p16 (HO.tup [V.str s2, V.bl false])) pl (HO.lst [v1, v2, v3, v4, v5, v6, v7, v8, v9, v10, v11, v12, v13, V.ref p14, V.ref p16]) pl = some (HO.lst [v1, v2, v3, v4, v5, v6, v7, v8, v9, v10, v11, v12, v13, V.ref p14, V.ref p16]) := upd_same
  have hlen : [v1, v2, v3, v4, v5, v6, v7, v8, v9, v10, v11, v12, v13, V.ref p14, V.ref p16].length = 15 := rfl
  generalize upd (upd G16 p16 (HO.tup [V.str s2, V.bl false])) pl (HO.lst [v1, v2, v3, v4, v5, v6, v7, v8, v9, v10, v11, v12, v13, V.ref p14, V.ref p16]) = G18 at L18 j18 e18 ⊢
  generalize [v1, v2, v3, v4, v5, v6, v7, v8, v9, v10, v11, v12, v13, V.ref p14, V.ref p16] = xs at j18 e18 hlen
  clear L13 j13 f14 d14 f15 L15 j14 f16 d16 f17 L17 j15 npl
  refine ⟨pl, rfl, ⟨_, SqL.of e18⟩, for_list (K := K) (a := pl) (xs := xs) (fun i σ H => ∃ y4 y5 y6, σ = [some (.ref a), some (.ref d), some (.ref ba), some (.int (bk.kinds.length : Nat)), y4, y5, y6, none, none, none, none, none, none, none] ∧ LW K d l row bk ba bp bq ks ms H ∧ H pl = some (.lst xs) ∧ ImA K H xs due)
    ⟨none, none, none, rfl, L18, e18, j18⟩ (fun i σ H _ ⟨_, _, _, _, _, h, _⟩ => SqL.of h) ?_ ?_⟩
  · rintro i x σ G hx ⟨y4, y5, y6, rfl, LG, eG, jG⟩
    obtain ⟨e, he, ie⟩ := jG.get hx
    obtain ⟨dd, b, rfl, hb⟩ := hdue e (List.mem_of_getElem? he)
    obtain ⟨t, zs, rfl, ht, _, hz⟩ := Im.tupI ie
    obtain ⟨x1, x2, rfl, i1, i2⟩ := hz.two
    cases i2
    refine ⟨t, _, rfl, ht, rfl, x1, [.bl b], rfl, .bl b, [], rfl, rfl, ?_⟩
    refine ⟨_, rfl, x1, dd, rfl, i1, fun G1 f1 => ?_⟩
    rw [hb]
    refine ⟨_, rfl, _, .bool b, rfl, .bl b, _, rfl, iteF ⟨_, rfl, _, rfl, .bl b, .bl b, .bool b, rfl, .bl b, .bl b, (by show 0 < 1; decide), fun G2 f2 => ⟨_, rfl, iteF ?_⟩⟩⟩
    have f12 := f1.trans f2
    exact ⟨_, _, _, rfl, LG.m0 f12, f12.kp pl _ (fun z => z) eG, f12.ima jG⟩
  · rintro σ G ⟨y4, y5, y6, rfl, LG, eG, jG⟩
    clear eG jG L18 e18 j18 hdue hlen n1 n2
    -- stock
    refine ⟨_, rfl, _, rfl, _, _, rfl, rfl, ⟨by decide, by decide, by decide⟩, d, l, row, bk.kinds.length, _, rfl, hk6, by decide, LG.dr, fun vs G1 f1 d1 ⟨st, is, hst, hsx⟩ => ?_⟩
    have N1 := LG.tu f1.tu d1
    have so : StOk bk.kinds.length ((10 : Int) ^ (6 : Int).toNat) st := ⟨hst, hsx⟩
    refine ⟨_, rfl, _, rfl, _, vs, bk, stD st, rfl, N1.ib, is, fun G2 f2 => ⟨_, _, rfl, rfl, _, rfl, ?_⟩⟩
    rw [ent_ok so (Int.le_refl 0) (fun _ _ => rfl)]
    refine iteF ?_
    have N2 := N1.m0 f2
    have is2 := f2.im is
    refine ⟨_, rfl, _, rfl, _, vs, bk, stD st, rfl, N2.ib, is2, fun G3 f3 => ⟨_, _, rfl, rfl, _, rfl, ?_⟩⟩
    rw [ent_ok so (by decide) (fun _ _ => rfl)]
    refine iteF (tnx ?_)
    have N3 := N2.m0 f3
    have is3 := f3.im is2
    have cl : (cutP (st.map .int) none (some (-1))).length ≤ 6 := by rw [cutM, List.length_dropLast, List.length_map]; omega
    -- wrong
    refine st_ixS (K := K) (ds := wrongS st) ?wrong (by show 5 ≤ 1000; decide) fun ws wp G4 f4 np4 hp4 iw => ?_
    case wrong =>
      have V7 : ∀ {σ : L2.St}, σ[7]? = some (some vs) → EvI K (tVar 7) σ G3 (.tuple (st.map .int)) := fun e => ei_var e is3
      refine eia_cons (ei_cat (V7 rfl) (ei_tup (eia_cons ei_int eia_nil) (by simp)) (by rw [List.length_map, hst]; simp; omega)) (eia_cons (ei_cat (ei_slice (V7 rfl) eo_none eo_neg) (ei_tup (eia_cons (ei_neg ei_int) eia_nil) (by simp)) (by simp; omega))
        (eia_cons (ei_cat (ei_slice (V7 rfl) eo_none eo_neg) (ei_tup (eia_cons ei_bl eia_nil) (by simp)) (by simp; omega)) (eia_cons (ei_slice (V7 rfl) eo_none eo_neg) (eia_cons ei_non eia_nil))))
    have N4 := N3.m0 f4
    refine ⟨_, rfl, d, l, row, 5, rfl, by decide, N4.dr, fun v G5 f5 d5 ⟨c, ev, h0, h1⟩ => ?_⟩
    subst ev
    obtain ⟨j, rfl⟩ : ∃ j : Nat, c = (j : Nat) := ⟨c.toNat, by omega⟩
    have hwl : ws.length = 5 := iw.len
    have hj : j < ws.length := by omega
    obtain ⟨we, hwe, iwe⟩ := iw.get (List.getElem?_eq_getElem hj)
    have hwp := f5.kp wp _ (N3.dr.nd np4) hp4
    have N5 := N4.tu f5.tu d5
    have is5 := (f4.im is3).mono f5.tu
    have iwe5 := iwe.mono f5.tu
    have wno := wrong_no so hk1 (lo := 0) (.inl rfl) we (List.mem_of_getElem? hwe)
    have wno1 := wrong_no so hk1 (lo := -1) (.inr rfl) we (List.mem_of_getElem? hwe)
    refine ⟨wp, ws, _, _, rfl, rfl, SqL.of hwp, atI_nat (List.getElem?_eq_getElem hj), ?_⟩
    -- endless
    refine st_setS (K := K) (d := .tuple (cutP (st.map .int) none (some (-1)) ++ [.int (-1)])) ?endless fun ve G6 f6 ie => ?_
    case endless => exact ei_cat (ei_slice (ei_var (i := 7) rfl is5) eo_none eo_neg) (ei_tup (eia_cons (ei_neg ei_int) eia_nil) (by simp)) (by simp; omega)
    have N6 := N5.m0 f6
    have iwe6 := f6.im iwe5
    refine ⟨_, rfl, _, rfl, _, _, bk, we, rfl, N6.ib, iwe6, fun G7 f7 => ⟨_, _, rfl, rfl, _, rfl, ?_⟩⟩
    rw [wno]
    refine iteF ?_
    have N7 := N6.m0 f7
    refine ⟨_, rfl, _, rfl, _, _, bk, we, rfl, N7.ib, f7.im iwe6, fun G8 f8 => ⟨_, _, rfl, rfl, _, rfl, ?_⟩⟩
    rw [wno1]
    refine iteF (tnx ?_)
    have N8 := N7.m0 f8
    have ie8 := f8.im (f7.im ie)
    refine ⟨_, rfl, _, rfl, _, _, bk, _, rfl, N8.ib, ie8, fun G9 f9 => ⟨_, _, rfl, rfl, _, rfl, ?_⟩⟩
    rw [endless_no so hk1]
    refine iteF ?_
    have N9 := N8.m0 f9
    refine ⟨_, rfl, _, rfl, _, _, bk, _, rfl, N9.ib, f9.im ie8, fun G10 f10 => ⟨_, _, rfl, rfl, _, rfl, ?_⟩⟩
    rw [endless_yes so hk1]
    refine iteF (tnx ?_)
    have N10 := N9.m0 f10
    clear f1 f2 f3 f4 f5 f6 f7 f8 f9 f10 d1 d5 is is2 is3 is5 iw iwe iwe5 iwe6 ie ie8 N1 N2 N3 N4 N5 N6 N7 N8 N9 LG hp4 np4 hwp hwe wno wno1
    -- for k in range(len(book[1]))
    refine ⟨_, rfl, ba, _, 1, _, rfl, rfl, N10.ha, atI_nat (j := 1) rfl, .ref bq, _, rfl, .inr ⟨_, N10.hq, rfl⟩, (ms.length : Nat), rfl, by omega, by omega, ?_⟩
    refine for_range (lo := 0) (n := ms.length) (fun i σ H => ∃ y10, σ = [some (.ref a), some (.ref d), some (.ref ba), some (.int (bk.kinds.length : Nat)), y4, y5, y6, some vs, some ws[j], some ve, y10, none, none, none] ∧ LW K d l row bk ba bp bq ks ms H) ⟨none, rfl, N10⟩ ?_ ?_
    · rintro k σ G hk ⟨y10, rfl, LG⟩
      have e0 : (0 : Int) + (k : Nat) = ((k : Nat) : Int) := by omega
      rw [e0]
      have hkm : k < bk.moves.length := by omega
      have emk : bk.moves[k]? = some bk.moves[k] := List.getElem?_eq_getElem hkm
      obtain ⟨x, hx, ix⟩ := LG.jm.get' (i := k) (e := mvD bk.moves[k]) (by rw [List.getElem?_map, emk]; rfl)
      obtain ⟨c, zs, rfl, hc, _, hz⟩ := Im.tupI ix
      obtain ⟨z1, z2, z3, z4, rfl, i1, _⟩ := hz.four
      obtain ⟨rfl, _⟩ := i1.strI
      refine ⟨_, rfl, _, rfl, ba, _, 1, _, rfl, rfl, LG.ha, atI_nat (j := 1) rfl, _, rfl, bq, ms, _, _, rfl, rfl, LG.hq, atI_nat hx, c, _, 0, _, rfl, rfl, hc, atI_nat (j := 0) rfl, .ref ba, bk.moves[k].name, bk, rfl, LG.ib, ?_⟩
      rw [gb.index emk]
      refine ⟨_, rfl, .int (k : Nat), .int (k : Nat), .int (k : Nat), rfl, .int _, .int _, (by show 0 < 1; decide), fun G2 f2 => ⟨_, rfl, iteF ?_⟩⟩
      exact ⟨_, rfl, LG.m0 f2⟩
    · rintro σ G ⟨y10, rfl, LG⟩
      clear N10
      -- move_index(book, book[0][0]), 'x1'
      obtain ⟨k0, kr, ek⟩ : ∃ k0 kr, bk.kinds = k0 :: kr := by
        cases e : bk.kinds with
        | nil => rw [e] at hk1; simp at hk1
        | cons k0 kr => exact ⟨k0, kr, rfl⟩
      obtain ⟨x, hx, ix⟩ := LG.jk.get' (i := 0) (e := .str k0) (by rw [ek]; rfl)
      obtain ⟨rfl, _⟩ := ix.strI
      have hN0 : Nm 0 k0 := gb.kn 0 k0 (by rw [ek]; rfl)
      refine ⟨_, rfl, _, rfl, ba, _, 0, _, rfl, rfl, LG.ha, atI_nat (j := 0) rfl, bp, ks, 0, _, rfl, rfl, LG.hp, atI_nat (j := 0) hx, .ref ba, k0, bk, rfl, LG.ib, ?_⟩
      rw [gb.no_index (y := k0) fun k h => by have := hN0.inj h; omega]
      refine ⟨rfl, _, rfl, iteF ?_⟩
      refine ⟨_, rfl, .ref ba, Str.ofString "x1", bk, rfl, LG.ib, ?_⟩
      rw [gb.no_index (y := Str.ofString "x1") fun k => x1_no _]
      refine ⟨rfl, _, rfl, iteF ?_⟩
      -- run
      refine ⟨_, rfl, _, rfl, ba, _, 1, _, rfl, rfl, LG.ha, atI_nat (j := 1) rfl, .ref bq, _, rfl, .inr ⟨_, LG.hq, rfl⟩, _, _, rfl, rfl, ⟨by decide, by decide, by decide⟩, d, l, row, ms.length, 3, _, rfl, by decide, by decide, LG.dr, fun vr G1 f1 d1 ⟨rs, ir, hrs, hr4⟩ => ?_⟩
      have N1 := LG.tu f1.tu d1
      rw [lm] at hrs
      refine ⟨_, rfl, _, rfl, _, vr, bk, .tuple rs, rfl, N1.ib, ir, fun G2 f2 => ⟨_, _, rfl, rfl, _, rfl, ?_⟩⟩
      rw [areSteps_mono (by decide) hrs]
      refine iteF ?_
      have N2 := N1.m0 f2
      have ir2 := f2.im ir
      refine ⟨_, rfl, (by show 0 ≤ sizeLine; decide), fun p3 np3 => ?_⟩
      have f3 : Fm M0 G2 (upd G2 p3 (.tup [])) := Fm.new np3
      refine ⟨_, .ref p3, bk, .tuple [], rfl, (N2.m0 f3).ib, .tup (SqT.of upd_same) (by show 0 ≤ 1000; decide) .nil, fun G4 f4 => ⟨_, _, rfl, rfl, _, rfl, ?_⟩⟩
      rw [show areSteps bk.moves.length 30 (.tuple []) = true from rfl]
      refine iteF (tnx ?_)
      have N4 := (N2.m0 f3).m0 f4
      have ir4 := (f3.trans f4).im ir2
      -- bad
      refine st_lstS (K := K) (ds := badS bk.moves.length) ?bad (by show 8 ≤ 1000; decide) fun bs bp5 G5 f5 np5 hp5 ibs => ?_
      case bad =>
        have Vb : ∀ {σ : L2.St}, σ[2]? = some (some (.ref ba)) → EvI K (tVar 2) σ G4 (bkD bk) := fun e => ei_var e N4.ib
        have hl : ∀ {σ : L2.St}, σ[2]? = some (some (.ref ba)) → EvI K _ σ G4 (.int (bk.moves.length : Nat)) := fun e => by
          have := ei_len (ei_ix (i := 1) (Vb e) rfl)
          rwa [List.length_map] at this
        have ei_s : ∀ {σ : L2.St} {x : Str}, (decide (x.length ≤ 1000) && PyData.strOk x) = true → EvI K (tC (.str x)) σ G4 (.str x) := fun h => ei_str h
        have hdo : (decide ((Str.ofString "do").length ≤ 1000) && PyData.strOk (Str.ofString "do")) = true := by decide +kernel
        have hrep : (decide ((Str.ofString "rep").length ≤ 1000) && PyData.strOk (Str.ofString "rep")) = true := by decide +kernel
        have hgo : (decide ((Str.ofString "go").length ≤ 1000) && PyData.strOk (Str.ofString "go")) = true := by decide +kernel
        refine eia_cons (ei_tup (eia_cons (ei_s hdo) (eia_cons (hl rfl) eia_nil)) (by simp)) (eia_cons (ei_tup (eia_cons (ei_s hdo) (eia_cons (ei_neg ei_int) eia_nil)) (by simp)) (eia_cons (ei_tup (eia_cons (ei_s hdo) (eia_cons ei_bl eia_nil)) (by simp))
          (eia_cons (ei_tup (eia_cons (ei_s hrep) (eia_cons ei_int (eia_cons (ei_tup (eia_cons (ei_tup (eia_cons (ei_s hdo) (eia_cons ei_int eia_nil)) (by simp)) eia_nil) (by simp)) eia_nil))) (by simp))
          (eia_cons (ei_tup (eia_cons (ei_s hrep) (eia_cons ei_int (eia_cons (ei_tup eia_nil (by simp)) eia_nil))) (by simp)) (eia_cons (ei_tup (eia_cons (ei_s hrep) (eia_cons ei_int eia_nil)) (by simp)) (eia_cons (ei_tup (eia_cons (ei_s hgo) (eia_cons ei_int eia_nil)) (by simp)) (eia_cons (ei_tup eia_nil (by simp)) eia_nil)))))))
      have N5 := N4.m0 f5
      have ir5 := f5.im ir4
      have hbl : bs.length = 8 := ibs.len
      -- is_run(book, run + (bad[..],)) is not False
      refine ⟨_, rfl, _, rfl, _, rfl, _, rfl, _, rfl, _, _, rfl, .inl ⟨_, SqL.of hp5, rfl⟩, d, l, row, (bs.length : Nat), rfl, by omega, N5.dr, fun v G6 f6 d6 ⟨c, ev, h0, h1⟩ => ?_⟩
      subst ev
      obtain ⟨j, rfl⟩ : ∃ j : Nat, c = (j : Nat) := ⟨c.toNat, by omega⟩
      have hj : j < bs.length := by omega
      obtain ⟨be, hbe, ibe⟩ := ibs.get (List.getElem?_eq_getElem hj)
      have hp6 := f6.kp bp5 _ (N4.dr.nd np5) hp5
      have N6 := N5.tu f6.tu d6
      refine ⟨bp5, bs, _, _, rfl, rfl, SqL.of hp6, atI_nat (List.getElem?_eq_getElem hj), (by show 1 ≤ sizeLine; decide), fun p7 np7 => ?_⟩
      have f7 : Fm M0 G6 (upd G6 p7 (.tup [bs[j]])) := Fm.new np7
      have hrl : rs.length ≤ 999 := by omega
      refine cat_im (K := K) (ds := rs) (es := [be]) (f7.im (ir5.mono f6.tu)) (.tup (SqT.of upd_same) (by show 1 ≤ 1000; decide) (.cons (f7.im (ibe.mono f6.tu)) .nil)) (by simp; omega) fun v8 G8 f8 i8 => ?_
      have N8 := (N6.m0 f7).m0 f8
      refine ⟨_, v8, bk, _, rfl, N8.ib, i8, fun G9 f9 => ⟨_, _, rfl, rfl, _, rfl, ?_⟩⟩
      have hno : areSteps bk.moves.length 30 (.tuple (rs ++ [be])) = false := by
        simp only [areSteps, allSteps, List.all_append, List.all_cons, badS_no _ be (List.mem_of_getElem? hbe)]
        simp
      rw [hno]
      refine iteF (tnx ?_)
      have N9 := N8.m0 f9
      -- len(book[1]) == 0
      refine ⟨_, rfl, ba, _, 1, _, rfl, rfl, N9.ha, atI_nat (j := 1) rfl, .ref bq, _, rfl, .inr ⟨_, N9.hq, rfl⟩, rfl, _, rfl, ite2 (fun _ => q _) (fun cz => tnx ?_)⟩
      have hmv : 0 < bk.moves.length := by
        have : ¬ ((ms.length : Nat) : Int) = 0 := fun z => cz (decide_eq_true (by rw [z]))
        omega
      refine st_setS (K := K) (d := lastD) ?last fun vl G10 f10 il => ?_
      case last => exact ei_tup (eia_cons (ei_tup (eia_cons (ei_str (by decide +kernel)) (eia_cons ei_int eia_nil)) (by simp)) eia_nil) (by simp)
      have N10 := N9.m0 f10
      refine ⟨_, rfl, _, rfl, vl, lastD, 29, rfl, il, by decide, fun v11 G11 f11 i11 => ⟨_, v11, bk, _, rfl, (N10.m0 f11).ib, i11, fun G12 f12 => ⟨_, _, rfl, rfl, _, rfl, ?_⟩⟩⟩
      rw [nest_yes hmv 29]
      have N12 := (N10.m0 f11).m0 f12
      refine iteT ⟨_, rfl, _, rfl, vl, lastD, 30, rfl, (f11.trans f12).im il, by decide, fun v13 G13 f13 i13 => ⟨_, v13, bk, _, rfl, (N12.m0 f13).ib, i13, fun G14 f14 => ⟨_, _, rfl, rfl, ?_⟩⟩⟩
      rw [nest_no 30]
      exact q _
end

end Mt

namespace Mt
open PySem PySem.Spec PyProof.Rows L2
theorem finish {l : PySem.W.OpenLaw} {w : World} {K : PySem.W.Frag} {mg : Str → Option Value} {fa : Addr} (W : Wd K mg) (hfa : mg "law" = some (.ref fa)) :
    ∃ fd : FuncData, (∀ (s : Shared) (v : Value), BindsTo s fd ⟨[v], []⟩ [("script", v)]) ∧ ∀ base : Heap, K.In base → base.Ns mainGlobals mg → FnOk l.prog w K mg base CX0 65 fa fd ["script"] (sp_law K) := by
  have e := hfa.symm.trans W.D_law.m
  cases e
  exact ⟨W.d_law, W.B_law, fun base _ _ => ok_law W⟩

end Mt

open PySem PySem.W PyProof.Rows
set_option maxRecDepth 100000 in
set_option maxHeartbeats 0 in
theorem PySem.Challenge.cw_mintlaw_k00_forms_holds : PySem.Challenge.rw_mintlaw_k00_forms.Holds := by
  w_on; o_law; k_head; (case hw => w_witness2)
  k_fill
  refine L2.walk_of (l := PySem.Challenge.rw_mintlaw_k00_forms) (n := 63) (k := 65) (x := "script") (CX := fun _ => L2.CX0) (sp := fun w => Mt.sp_law _) rfl (by decide) rfl ⟨rfl, by decide, by decide⟩ (fun w h Y => PySem.W.kIn_of Y) ?F (fun _ _ a ns hl _ hS => ⟨a, ns, rfl, hS, hl, fun _ => rfl⟩) (fun _ _ _ _ _ h => h)
  case F =>
    intro w mg fa h KX G hmg
    refine' Mt.finish (Mt.wd_mk KX G ?a0 ?l0 ?c0 ?k0 ?a1 ?l1 ?c1 ?k1 ?a2 ?l2 ?c2 ?k2 ?a3 ?l3 ?c3 ?k3 ?a4 ?l4 ?c4 ?k4 ?a5 ?l5 ?c5 ?k5 ?a6 ?l6 ?c6 ?k6 ?a7 ?l7 ?c7 ?k7 ?a8 ?l8 ?c8 ?k8 ?a9 ?l9 ?c9 ?k9 ?a10 ?l10 ?c10 ?k10 ?a11 ?l11 ?c11 ?k11 ?a12 ?l12 ?c12 ?k12 ?a13 ?l13 ?c13 ?k13 ?a14 ?l14 ?c14 ?k14 ?a15 ?l15 ?c15 ?k15 ?a16 ?l16 ?c16 ?k16 ?a17 ?l17 ?c17 ?k17 ?a18 ?l18 ?c18 ?k18 ?a19 ?l19 ?c19 ?k19 ?a20 ?l20 ?c20 ?k20 ?a21 ?l21 ?c21 ?k21 ?a22 ?l22 ?c22 ?k22 ?z_isinstance ?z_int ?z_bool ?z_str ?z_tuple ?z_list ?z_dict ?z_len ?z_all ?z_range ?z_abs ?z_min ?z_set ?v_SMALL ?v_DIGITS ?v_RESERVED ?w_RESERVED ?v_MAX_KINDS ?v_MAX_MOVES ?v_MAX_ENTRY ?v_MAX_NESTED) hmg
    (case a0 => k_is)
    (case l0 => k_is)
    (case c0 => k_is)
    (case k0 => k_is)
    (case a1 => k_is)
    (case l1 => k_is)
    (case c1 => k_is)
    (case k1 => k_is)
    (case a2 => k_is)
    (case l2 => k_is)
    (case c2 => k_is)
    (case k2 => k_is)
    (case a3 => k_is)
    (case l3 => k_is)
    (case c3 => k_is)
    (case k3 => k_is)
    (case a4 => k_is)
    (case l4 => k_is)
    (case c4 => k_is)
    (case k4 => k_is)
    (case a5 => k_is)
    (case l5 => k_is)
    (case c5 => k_is)
    (case k5 => k_is)
    (case a6 => k_is)
    (case l6 => k_is)
    (case c6 => k_is)
    (case k6 => k_is)
    (case a7 => k_is)
    (case l7 => k_is)
    (case c7 => k_is)
    (case k7 => k_is)
    (case a8 => k_is)
    (case l8 => k_is)
    (case c8 => k_is)
    (case k8 => k_is)
    (case a9 => k_is)
    (case l9 => k_is)
    (case c9 => k_is)
    (case k9 => k_is)
    (case a10 => k_is)
    (case l10 => k_is)
    (case c10 => k_is)
    (case k10 => k_is)
    (case a11 => k_is)
    (case l11 => k_is)
    (case c11 => k_is)
    (case k11 => k_is)
    (case a12 => k_is)
    (case l12 => k_is)
    (case c12 => k_is)
    (case k12 => k_is)
    (case a13 => k_is)
    (case l13 => k_is)
    (case c13 => k_is)
    (case k13 => k_is)
    (case a14 => k_is)
    (case l14 => k_is)
    (case c14 => k_is)
    (case k14 => k_is)
    (case a15 => k_is)
    (case l15 => k_is)
    (case c15 => k_is)
    (case k15 => k_is)
    (case a16 => k_is)
    (case l16 => k_is)
    (case c16 => k_is)
    (case k16 => k_is)
    (case a17 => k_is)
    (case l17 => k_is)
    (case c17 => k_is)
    (case k17 => k_is)
    (case a18 => k_is)
    (case l18 => k_is)
    (case c18 => k_is)
    (case k18 => k_is)
    (case a19 => k_is)
    (case l19 => k_is)
    (case c19 => k_is)
    (case k19 => k_is)
    (case a20 => k_is)
    (case l20 => k_is)
    (case c20 => k_is)
    (case k20 => k_is)
    (case a21 => k_is)
    (case l21 => k_is)
    (case c21 => k_is)
    (case k21 => k_is)
    (case a22 => k_is)
    (case l22 => k_is)
    (case c22 => k_is)
    (case k22 => k_is)
    (case z_isinstance => k_is)
    (case z_int => k_is)
    (case z_bool => k_is)
    (case z_str => k_is)
    (case z_tuple => k_is)
    (case z_list => k_is)
    (case z_dict => k_is)
    (case z_len => k_is)
    (case z_all => k_is)
    (case z_range => k_is)
    (case z_abs => k_is)
    (case z_min => k_is)
    (case z_set => k_is)
    (case v_SMALL => k_is)
    (case v_DIGITS => k_is)
    (case v_RESERVED => k_is)
    (case w_RESERVED => k_is)
    (case v_MAX_KINDS => k_is)
    (case v_MAX_MOVES => k_is)
    (case v_MAX_ENTRY => k_is)
    (case v_MAX_NESTED => k_is)
