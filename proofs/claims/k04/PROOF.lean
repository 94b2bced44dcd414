import PyProof.Rows.All
import Wide.All
import OpenK.AllK
import Wide.FinOn
import HandS.ForMost
import HandS.Wide
import HandS.Zip
import HandS.ExcValue
import HandS.ExcIs
import HandS.WordsExc
import HandS.ExcOwn
import HandS.Exc
import HandS.IsInst
import HandS.TupAny
import HandS.TupMul
import HandS.Style
import HandS.SortRule
import HandS.SortInts
import HandS.Text
import HandS.Conv
import KE.GoesZip
import KE.GoesMore
import KE.DataFind
import HandS.ExcBuiltin
import PyProof.EnumMake
import KE.DatumOrd
import KE.SortData
import PyProof.LongRange
import KE.GoesComp
import HandS.More
import PyProof.SumWalkG
import PyProof.Rows.RegReprOcc
import PySem.Challenge.RW_underone_k04_texts_of_no_askings
set_option Elab.async false
set_option linter.all false
set_option maxRecDepth 100000
/-! L3: a layer of values over HandS: data (PyData), lists of one's own as trees, no addresses in sight. -/
namespace L3
open PySem PySem.Spec PyProof.Rows L2
/-- a value: data that never changes again, a plain V, the script (a list of ints that is only read), a list of one's own (it may be changed), a tuple of such -/
inductive T where
  | d (x : PyData) | v (x : V) | sc (a : Addr) (ns : List Int) | own (a : Addr) (l : List T) | tp (l : List T) | ob (C a dx k : Addr) (f : Str) (kvs : List (Str × PyData)) | hx (a : Addr) (o : List V → Option HO) (ds : List PyData)
abbrev Rho := List (Option T)
def Sub (Z Z' : Hp) : Prop := ∀ a o, Z a = some o → Z' a = some o
theorem Sub.refl (Z : Hp) : Sub Z Z := fun _ _ h => h
theorem Sub.trans {A B C : Hp} (h : Sub A B) (k : Sub B C) : Sub A C := fun a o e => k a o (h a o e)
theorem Sub.L {K : PySem.W.Frag} {Z Z' : Hp} {a : Addr} {xs : List V} (e : Sub Z Z') (h : SqL K Z a xs) : SqL K Z' a xs := by
  rcases h with (h | ⟨o, h⟩) | h
  · exact .inl (.inl (e _ _ h))
  · exact .inl (.inr ⟨o, e _ _ h⟩)
  · exact .inr h
theorem Sub.T {K : PySem.W.Frag} {Z Z' : Hp} {a : Addr} {xs : List V} (e : Sub Z Z') (h : SqT K Z a xs) : SqT K Z' a xs := by
  rcases h with (h | ⟨o, h⟩) | h
  · exact .inl (.inl (e _ _ h))
  · exact .inl (.inr ⟨o, e _ _ h⟩)
  · exact .inr h
/-- an object that is an exception of the class C, and stays one -/
def IsExc (C : Addr) (a : Addr) (o : HO) : Prop := ∃ φ, o = .ext φ ∧ ∀ h, φ h → ∃ (oe : Obj) (vs : Array Value), h.get? a = some oe ∧ Zc (.ref C) none oe ∧ oe.data = .fields vs
/-- an exception of the class C, as data -/
abbrev excD (C : Addr) : PyData := .dict [(.int (C : Nat), .none)]
mutual
inductive Dq (K : PySem.W.Frag) (H : Hp) : V → PyData → Prop
  | non : Dq K H .non .none
  | bl (b : Bool) : Dq K H (.bl b) (.bool b)
  | int (i : Int) : Dq K H (.int i) (.int i)
  | str (x : Str) : Dq K H (.str x) (.str x)
  | lst {a : Addr} {xs : List V} {ds : List PyData} : H a = some (.lst xs) → DqAll K H xs ds → Dq K H (.ref a) (.list ds)
  | tup {a : Addr} {xs : List V} {ds : List PyData} : H a = some (.tup xs) → DqAll K H xs ds → Dq K H (.ref a) (.tuple ds)
  | exc {a C : Addr} {o : HO} : H a = some o → IsExc C a o → Dq K H (.ref a) (excD C)
inductive DqAll (K : PySem.W.Frag) (H : Hp) : List V → List PyData → Prop
  | nil : DqAll K H [] []
  | cons {v : V} {vs : List V} {d : PyData} {ds : List PyData} : Dq K H v d → DqAll K H vs ds → DqAll K H (v :: vs) (d :: ds)
end
mutual
theorem dq_dp {K : PySem.W.Frag} {Z : Hp} : ∀ (d : PyData) (v : V), d.canLay0 = true → Dq K Z v d → Dp K Z v d
  | .none, _, _, h => by cases h; exact .non
  | .bool b, _, _, h => by cases h; exact .bl b
  | .int i, _, _, h => by cases h; exact .int i
  | .str x, _, _, h => by cases h; exact .str x
  | .list ds, _, c, h => by
    cases h with
    | lst hs ha => exact .lst (SqL.of hs) (dqa_dp ds _ (by simpa [PyData.canLay0] using c) ha)
  | .tuple ds, _, c, h => by
    cases h with
    | tup hs ha => exact .tup (SqT.of hs) (dqa_dp ds _ (by simpa [PyData.canLay0] using c) ha)
  | .dict _, _, c, h => by simp [PyData.canLay0] at c
theorem dqa_dp {K : PySem.W.Frag} {Z : Hp} : ∀ (ds : List PyData) (vs : List V), PyData.canLayAll0 ds = true → DqAll K Z vs ds → DpAll K Z vs ds
  | [], _, _, h => by cases h; exact .nil
  | d :: ds, _, c, h => by
    have c' : d.canLay0 = true ∧ PyData.canLayAll0 ds = true := by simpa [PyData.canLayAll0] using c
    cases h with
    | cons h1 h2 => exact .cons (dq_dp d _ c'.1 h1) (dqa_dp ds _ c'.2 h2)
end
mutual
theorem dp_mono {K : PySem.W.Frag} {Z Z' : Hp} (e : Sub Z Z') : ∀ (d : PyData) (v : V), Dq K Z v d → Dq K Z' v d
  | .none, _, h => by cases h; exact .non
  | .bool b, _, h => by cases h; exact .bl b
  | .int i, _, h => by cases h; exact .int i
  | .str x, _, h => by cases h; exact .str x
  | .list ds, _, h => by
    cases h with
    | lst hs ha => exact .lst (e _ _ hs) (dpa_mono e ds _ ha)
  | .tuple ds, _, h => by
    cases h with
    | tup hs ha => exact .tup (e _ _ hs) (dpa_mono e ds _ ha)
  | .dict _, _, h => by
    cases h with
    | exc h1 h2 => exact .exc (e _ _ h1) h2
theorem dpa_mono {K : PySem.W.Frag} {Z Z' : Hp} (e : Sub Z Z') : ∀ (ds : List PyData) (vs : List V), DqAll K Z vs ds → DqAll K Z' vs ds
  | [], _, h => by cases h; exact .nil
  | d :: ds, _, h => by
    cases h with
    | cons h1 h2 => exact .cons (dp_mono e d _ h1) (dpa_mono e ds _ h2)
end
/-- a heap without some tracked lists -/
def Ownd : HO → Prop
  | .lst _ => True
  | .ins _ _ _ => True
  | .own _ => True
  | .dK _ => True
  | .frz _ (.dK _) => True
  | _ => False
def SubT (Z Z' : Hp) : Prop := ∀ a o, Z a = some o → ¬ Ownd o → Z' a = some o
theorem SubT.T {K : PySem.W.Frag} {Z Z' : Hp} {a : Addr} {xs : List V} (e : SubT Z Z') (h : SqT K Z a xs) : SqT K Z' a xs := by
  rcases h with (h | ⟨o, h⟩) | h
  · exact .inl (.inl (e _ _ h (fun q => q)))
  · exact .inl (.inr ⟨o, e _ _ h (fun q => q)⟩)
  · exact .inr h
mutual
inductive RT (K : PySem.W.Frag) (Z H : Hp) : T → V → Prop
  | d {x : PyData} {v : V} : Dq K Z v x → RT K Z H (.d x) v
  | v {x : V} : RT K Z H (.v x) x
  | sc {a : Addr} {ns : List Int} : SqL K Z a (ns.map V.int) → RT K Z H (.sc a ns) (.ref a)
  | own {a : Addr} {l : List T} {xs : List V} : H a = some (.lst xs) → RTs K Z H l xs → RT K Z H (.own a l) (.ref a)
  | tp {a : Addr} {l : List T} {xs : List V} : Z a = some (.tup xs) → RTs K Z H l xs → RT K Z H (.tp l) (.ref a)
  | ob {C a dx k : Addr} {f : Str} {kvs : List (Str × PyData)} {xs : List (Key × V)} : H a = some (.ins C dx [(f, .ref k)]) → H dx = some (.own a) → H k = some (.dK xs) → xs.map (·.1) = kvs.map (fun p => (.inr p.1 : Key)) → DqAll K Z (xs.map (·.2)) (kvs.map (·.2)) → RT K Z H (.ob C a dx k f kvs) (.ref a)
  | hx {a : Addr} {o : List V → Option HO} {ds : List PyData} {xs : List V} {u : HO} : o xs = some u → Ownd u → H a = some u → DqAll K Z xs ds → RT K Z H (.hx a o ds) (.ref a)
inductive RTs (K : PySem.W.Frag) (Z H : Hp) : List T → List V → Prop
  | nil : RTs K Z H [] []
  | cons {t : T} {l : List T} {v : V} {vs : List V} : RT K Z H t v → RTs K Z H l vs → RTs K Z H (t :: l) (v :: vs)
end
mutual
/-- how often the list at a stands in it as one's own -/
def ct (a : Addr) : T → Nat
  | .d _ => 0
  | .v _ => 0
  | .sc _ _ => 0
  | .own b l => (if b = a then 1 else 0) + cts a l
  | .tp l => cts a l
  | .ob _ b dx k _ _ => (if b = a then 1 else 0) + (if dx = a then 1 else 0) + (if k = a then 1 else 0)
  | .hx b _ _ => if b = a then 1 else 0
def cts (a : Addr) : List T → Nat
  | [] => 0
  | t :: l => ct a t + cts a l
end
def cto (a : Addr) : Rho → Nat
  | [] => 0
  | none :: r => cto a r
  | some t :: r => ct a t + cto a r
def ctq (a : Addr) : Option T → Nat
  | none => 0
  | some t => ct a t
theorem cto_cons (a : Addr) (q : Option T) (r : Rho) : cto a (q :: r) = ctq a q + cto a r := by
  cases q with
  | none => show cto a r = 0 + cto a r; omega
  | some t => rfl
theorem cto_set (a : Addr) : ∀ (r : Rho) (i : Nat) (q x : Option T), r[i]? = some q → cto a (r.set i x) + ctq a q = cto a r + ctq a x
  | [], i, q, x, h => by simp at h
  | y :: r, 0, q, x, h => by
    have e : y = q := by simpa using h
    subst e
    rw [List.set_cons_zero, cto_cons, cto_cons]
    omega
  | y :: r, i + 1, q, x, h => by
    have h' : r[i]? = some q := by simpa using h
    have ih := cto_set a r i q x h'
    rw [List.set_cons_succ, cto_cons, cto_cons]
    omega
theorem cto_set_ge (a : Addr) : ∀ (r : Rho) (i : Nat) (x : Option T), r.length ≤ i → cto a (r.set i x) = cto a r := fun r i x h => by
  rw [List.set_eq_of_length_le h]
theorem cts_append (a : Addr) : ∀ (l m : List T), cts a (l ++ m) = cts a l + cts a m
  | [], m => by simp [cts]
  | t :: l, m => by simp only [List.cons_append, cts, cts_append a l m]; omega
theorem cts_get (a : Addr) : ∀ (l : List T) (i : Nat) (t : T), l[i]? = some t → ct a t ≤ cts a l
  | [], i, t, h => by simp at h
  | y :: l, 0, t, h => by
    have e : y = t := by simpa using h
    subst e
    simp only [cts]
    omega
  | y :: l, i + 1, t, h => by
    have h' : l[i]? = some t := by simpa using h
    have := cts_get a l i t h'
    simp only [cts]
    omega
theorem cts_set (a : Addr) : ∀ (l : List T) (i : Nat) (t x : T), l[i]? = some t → cts a (l.set i x) + ct a t = cts a l + ct a x
  | [], i, t, x, h => by simp at h
  | y :: l, 0, t, x, h => by
    have e : y = t := by simpa using h
    subst e
    simp only [List.set_cons_zero, cts]
    omega
  | y :: l, i + 1, t, x, h => by
    have h' : l[i]? = some t := by simpa using h
    have := cts_set a l i t x h'
    simp only [List.set_cons_succ, cts]
    omega
theorem cto_get (a : Addr) : ∀ (r : Rho) (i : Nat) (t : T), r[i]? = some (some t) → ct a t ≤ cto a r
  | [], i, t, h => by simp at h
  | y :: r, 0, t, h => by
    have e : y = some t := by simpa using h
    subst e
    simp only [cto]
    omega
  | y :: r, i + 1, t, h => by
    have h' : r[i]? = some (some t) := by simpa using h
    have := cto_get a r i t h'
    rw [cto_cons]
    omega
mutual
theorem rt_mono {K : PySem.W.Frag} {Z Z' H H' : Hp} (e : Sub Z Z') : ∀ (t : T) (v : V), (∀ a, 0 < ct a t → ∀ o, H a = some o → H' a = some o) → RT K Z H t v → RT K Z' H' t v
  | .d x, v, _, h => by
    cases h with
    | d h => exact .d (dp_mono e x v h)
  | .v x, v, _, h => by cases h; exact .v
  | .sc a ns, v, _, h => by
    cases h with
    | sc h => exact .sc (e.L h)
  | .own a l, v, k, h => by
    cases h with
    | own h1 h2 => exact .own (k a (by simp only [ct, if_true]; omega) _ h1) (rts_mono e l _ (fun b hb => k b (by simp only [ct]; omega)) h2)
  | .tp l, v, k, h => by
    cases h with
    | tp h1 h2 => exact .tp (e _ _ h1) (rts_mono e l _ (fun b hb => k b (by simp only [ct]; omega)) h2)
  | .ob C a dx k2 f kvs, v, k, h => by
    cases h with
    | ob h1 h2 h3 h4 h5 => exact .ob (k a (by simp only [ct, if_true]; omega) _ h1) (k dx (by simp only [ct, if_true]; omega) _ h2) (k k2 (by simp only [ct, if_true]; omega) _ h3) h4 (dpa_mono e _ _ h5)
  | .hx a o ds, v, k, h => by
    cases h with
    | hx h1 h2 h3 h4 => exact .hx h1 h2 (k a (by simp only [ct, if_true]; omega) _ h3) (dpa_mono e _ _ h4)
theorem rts_mono {K : PySem.W.Frag} {Z Z' H H' : Hp} (e : Sub Z Z') : ∀ (l : List T) (vs : List V), (∀ a, 0 < cts a l → ∀ o, H a = some o → H' a = some o) → RTs K Z H l vs → RTs K Z' H' l vs
  | [], _, _, h => by cases h; exact .nil
  | t :: l, _, k, h => by
    cases h with
    | cons h1 h2 => exact .cons (rt_mono e t _ (fun a ha => k a (by simp only [cts]; omega)) h1) (rts_mono e l _ (fun a ha => k a (by simp only [cts]; omega)) h2)
end
mutual
def fz : T → PyData
  | .d x => x
  | .v _ => .none
  | .sc _ _ => .none
  | .own _ l => .list (fzs l)
  | .tp l => .tuple (fzs l)
  | .ob _ _ _ _ _ _ => .none
  | .hx _ _ _ => .none
def fzs : List T → List PyData
  | [] => []
  | t :: l => fz t :: fzs l
end
mutual
def nv : T → Bool
  | .d _ => true
  | .v _ => false
  | .sc _ _ => false
  | .own _ l => nvs l
  | .tp l => nvs l
  | .ob _ _ _ _ _ _ => false
  | .hx _ _ _ => false
def nvs : List T → Bool
  | [] => true
  | t :: l => nv t && nvs l
end
mutual
theorem rt_fz {K : PySem.W.Frag} {Z Z' H : Hp} (e : Sub Z Z') : ∀ (t : T) (v : V), nv t = true → (∀ a, 0 < ct a t → ∀ o, H a = some o → Z' a = some o) → RT K Z H t v → Dq K Z' v (fz t)
  | .d x, v, _, _, h => by
    cases h with
    | d h => exact dp_mono e x v h
  | .v x, v, k, _, h => by simp [nv] at k
  | .sc a ns, v, k, _, h => by simp [nv] at k
  | .own a l, v, k, j, h => by
    cases h with
    | own h1 h2 => exact .lst (j a (by simp only [ct, if_true]; omega) _ h1) (rts_fz e l _ (by simpa [nv] using k) (fun b hb => j b (by simp only [ct]; omega)) h2)
  | .tp l, v, k, j, h => by
    cases h with
    | tp h1 h2 => exact .tup (e _ _ h1) (rts_fz e l _ (by simpa [nv] using k) (fun b hb => j b (by simp only [ct]; omega)) h2)
  | .ob _ _ _ _ _ _, v, k, _, h => by simp [nv] at k
  | .hx _ _ _, v, k, _, h => by simp [nv] at k
theorem rts_fz {K : PySem.W.Frag} {Z Z' H : Hp} (e : Sub Z Z') : ∀ (l : List T) (vs : List V), nvs l = true → (∀ a, 0 < cts a l → ∀ o, H a = some o → Z' a = some o) → RTs K Z H l vs → DqAll K Z' vs (fzs l)
  | [], _, _, _, h => by cases h; exact .nil
  | t :: l, _, k, j, h => by
    have k' : nv t = true ∧ nvs l = true := by simpa [nvs] using k
    cases h with
    | cons h1 h2 => exact .cons (rt_fz e t _ k'.1 (fun a ha => j a (by simp only [cts]; omega)) h1) (rts_fz e l _ k'.2 (fun a ha => j a (by simp only [cts]; omega)) h2)
end
mutual
/-- where a list of one's own stands it is tracked as a list -/
theorem rt_own {K : PySem.W.Frag} {Z H : Hp} {a : Addr} : ∀ (t : T) (v : V), RT K Z H t v → 0 < ct a t → ∃ o, H a = some o ∧ Ownd o
  | .d x, v, h, c => by simp [ct] at c
  | .v x, v, h, c => by simp [ct] at c
  | .sc b ns, v, h, c => by simp [ct] at c
  | .own b l, v, h, c => by
    cases h with
    | own h1 h2 =>
      by_cases e : b = a
      · subst e; exact ⟨_, h1, ⟨⟩⟩
      · exact rts_own l _ h2 (by simp only [ct, if_neg e] at c; omega)
  | .tp l, v, h, c => by
    cases h with
    | tp h1 h2 => exact rts_own l _ h2 (by simpa [ct] using c)
  | .ob C b dx k f kvs, v, h, c => by
    cases h with
    | ob h1 h2 h3 h4 h5 =>
      by_cases e1 : b = a
      · subst e1; exact ⟨_, h1, ⟨⟩⟩
      · by_cases e2 : dx = a
        · subst e2; exact ⟨_, h2, ⟨⟩⟩
        · by_cases e3 : k = a
          · subst e3; exact ⟨_, h3, ⟨⟩⟩
          · simp only [ct, if_neg e1, if_neg e2, if_neg e3] at c; omega
  | .hx b o ds, v, h, c => by
    cases h with
    | hx h1 h2 h3 h4 =>
      by_cases e : b = a
      · subst e; exact ⟨_, h3, h2⟩
      · simp only [ct, if_neg e] at c; omega
theorem rts_own {K : PySem.W.Frag} {Z H : Hp} {a : Addr} : ∀ (l : List T) (vs : List V), RTs K Z H l vs → 0 < cts a l → ∃ o, H a = some o ∧ Ownd o
  | [], _, h, c => by simp [cts] at c
  | t :: l, _, h, c => by
    cases h with
    | cons h1 h2 =>
      by_cases e : 0 < ct a t
      · exact rt_own t _ h1 e
      · exact rts_own l _ h2 (by simp only [cts] at c; omega)
end
/-- the state: data at Z (never changed), what is not ours at G, lists of our own: each at one place -/
structure S3 (K : PySem.W.Frag) (G Z H : Hp) (ks : List T) (vs : List V) (r : Rho) (s : L2.St) : Prop where
  zh : Sub Z H
  gh : Sub G H
  one : ∀ a, cts a ks + cto a r ≤ 1
  ow : ∀ a, 0 < cts a ks + cto a r → Z a = none ∧ G a = none
  stk : RTs K Z H ks vs
  slot : ∀ (i : Nat) (t : T), r[i]? = some (some t) → ∃ v, s[i]? = some (some v) ∧ RT K Z H t v
  len : r.length = s.length
section
variable {K : PySem.W.Frag} {G Z Z' H H' : Hp} {ks : List T} {vs : List V} {r r' : Rho} {s : L2.St} {t : T} {v : V} {i : Nat} {a : Addr}
theorem S3.owned (h : S3 K G Z H ks vs r s) (c : 0 < cts a ks + cto a r) : ∃ o, H a = some o ∧ Ownd o := by
  by_cases e : 0 < cts a ks
  · exact rts_own ks vs h.stk e
  · have c2 : 0 < cto a r := by omega
    have : ∀ (r : Rho), 0 < cto a r → ∃ (i : Nat) (t : T), r[i]? = some (some t) ∧ 0 < ct a t := by
      intro r
      induction r with
      | nil => intro z; simp [cto] at z
      | cons q r ih =>
        intro z
        rw [cto_cons] at z
        by_cases y : 0 < ctq a q
        · cases q with
          | none => simp [ctq] at y
          | some t => exact ⟨0, t, rfl, y⟩
        · obtain ⟨i, t, e1, e2⟩ := ih (by omega)
          exact ⟨i + 1, t, by simpa using e1, e2⟩
    obtain ⟨i, t, e1, e2⟩ := this r c2
    obtain ⟨v, _, q⟩ := h.slot i t e1
    exact rt_own t v q e2
/-- a new heap that leaves what we know as it is -/
theorem S3.grow (h : S3 K G Z H ks vs r s) (hz : Sub Z Z') (hh : ∀ a, 0 < cts a ks + cto a r → H' a = H a) (zh : Sub Z' H') (gh : Sub G H') (zn : ∀ a, 0 < cts a ks + cto a r → Z' a = none) : S3 K G Z' H' ks vs r s where
  zh := zh
  gh := gh
  one := h.one
  ow := fun a c => ⟨zn a c, (h.ow a c).2⟩
  stk := rts_mono hz ks vs (fun a c o e => by rw [hh a (by omega)]; exact e) h.stk
  slot := fun i t e => by
    obtain ⟨v, e1, q⟩ := h.slot i t e
    exact ⟨v, e1, rt_mono hz t v (fun a c o e' => by rw [hh a (by have := cto_get a r i t e; omega)]; exact e') q⟩
  len := h.len
/-- the topmost one dropped -/
theorem S3.pop (h : S3 K G Z H (t :: ks) (v :: vs) r s) : S3 K G Z H ks vs r s where
  zh := h.zh
  gh := h.gh
  one := fun a => by have := h.one a; simp only [cts] at this; omega
  ow := fun a c => h.ow a (by simp only [cts]; omega)
  stk := by cases h.stk with | cons _ q => exact q
  slot := h.slot
  len := h.len
theorem S3.top (h : S3 K G Z H (t :: ks) (v :: vs) r s) : RT K Z H t v := by cases h.stk with | cons q _ => exact q
/-- data put on top -/
theorem S3.push (h : S3 K G Z H ks vs r s) (c : ∀ a, ct a t = 0) (q : RT K Z H t v) : S3 K G Z H (t :: ks) (v :: vs) r s where
  zh := h.zh
  gh := h.gh
  one := fun a => by have := h.one a; have := c a; simp only [cts]; omega
  ow := fun a k => h.ow a (by have := c a; simp only [cts] at k; omega)
  stk := .cons q h.stk
  slot := h.slot
  len := h.len
theorem S3.pushD {x : PyData} (h : S3 K G Z H ks vs r s) (q : Dq K Z v x) : S3 K G Z H (.d x :: ks) (v :: vs) r s := h.push (fun _ => rfl) (.d q)
/-- a slot's tree taken out -/
theorem S3.take (h : S3 K G Z H ks vs r s) (e : r[i]? = some (some t)) : ∃ v, s[i]? = some (some v) ∧ S3 K G Z H (t :: ks) (v :: vs) (r.set i none) s := by
  obtain ⟨v, e1, q⟩ := h.slot i t e
  have cs : ∀ a, cto a (r.set i none) + ct a t = cto a r := fun a => by have := cto_set a r i (some t) none e; simpa [ctq] using this
  refine ⟨v, e1, ⟨h.zh, h.gh, fun a => ?_, fun a c => h.ow a ?_, .cons q h.stk, fun j u ej => ?_, by rw [List.length_set]; exact h.len⟩⟩
  · have := h.one a; have := cs a; simp only [cts]; omega
  · have := cs a; simp only [cts] at c; omega
  · by_cases hj : j = i
    · subst hj
      have : j < r.length := (List.getElem?_eq_some_iff.mp e).1
      rw [List.getElem?_set_self this] at ej
      cases ej
    · rw [List.getElem?_set_ne (Ne.symm hj)] at ej
      exact h.slot j u ej
/-- the topmost one put into a slot -/
theorem S3.put (h : S3 K G Z H (t :: ks) (v :: vs) r s) (hi : i < r.length) : S3 K G Z H ks vs (r.set i (some t)) (s.set i (some v)) where
  zh := h.zh
  gh := h.gh
  one := fun a => by
    have h1 := h.one a
    have h2 := cto_set a r i r[i] (some t) (List.getElem?_eq_getElem hi)
    simp only [cts] at h1
    simp only [ctq] at h2
    omega
  ow := fun a c => h.ow a (by
    have h2 := cto_set a r i r[i] (some t) (List.getElem?_eq_getElem hi)
    simp only [ctq] at h2
    simp only [cts]
    omega)
  stk := by cases h.stk with | cons _ q => exact q
  slot := fun j u ej => by
    by_cases hj : j = i
    · subst hj
      rw [List.getElem?_set_self hi] at ej
      cases ej
      exact ⟨v, by rw [List.getElem?_set_self (by rw [← h.len]; exact hi)], h.top⟩
    · rw [List.getElem?_set_ne (Ne.symm hj)] at ej
      obtain ⟨w, e1, q⟩ := h.slot j u ej
      exact ⟨w, by rw [List.getElem?_set_ne (Ne.symm hj)]; exact e1, q⟩
  len := by rw [List.length_set, List.length_set]; exact h.len
/-- .. where the very same object stands -/
theorem S3.back (h : S3 K G Z H (t :: ks) (v :: vs) r s) (hi : i < r.length) (e : s[i]? = some (some v)) : S3 K G Z H ks vs (r.set i (some t)) s := by
  have h1 := h.put hi
  have e2 : s.set i (some v) = s := by
    obtain ⟨hlt, e3⟩ := List.getElem?_eq_some_iff.mp e
    rw [← e3]
    exact List.set_getElem_self hlt
  rw [e2] at h1
  exact h1
/-- a slot forgotten -/
theorem S3.wipe (h : S3 K G Z H ks vs r s) : S3 K G Z H ks vs (r.set i none) (s.set i none) where
  zh := h.zh
  gh := h.gh
  one := fun a => by
    have h1 := h.one a
    by_cases hi : i < r.length
    · have h2 := cto_set a r i r[i] none (List.getElem?_eq_getElem hi)
      have h3 : ctq a none = 0 := rfl
      omega
    · rw [cto_set_ge a r i none (by omega)]; exact h1
  ow := fun a c => h.ow a (by
    by_cases hi : i < r.length
    · have h2 := cto_set a r i r[i] none (List.getElem?_eq_getElem hi)
      have h3 : ctq a none = 0 := rfl
      omega
    · rw [cto_set_ge a r i none (by omega)] at c; exact c)
  stk := h.stk
  slot := fun j u ej => by
    by_cases hj : j = i
    · subst hj
      have hi : j < r.length := by
        have := (List.getElem?_eq_some_iff.mp ej).1
        simpa using this
      rw [List.getElem?_set_self hi] at ej
      cases ej
    · rw [List.getElem?_set_ne (Ne.symm hj)] at ej
      obtain ⟨w, e1, q⟩ := h.slot j u ej
      exact ⟨w, by rw [List.getElem?_set_ne (Ne.symm hj)]; exact e1, q⟩
  len := by rw [List.length_set, List.length_set]; exact h.len
/-- a new object p is laid; what we know stays -/
theorem S3.laid {p : Addr} {o : HO} (h : S3 K G Z H ks vs r s) (hp : H p = none) : S3 K G Z (upd H p o) ks vs r s :=
  have zn : ∀ a u, H a = some u → a ≠ p := fun a u e q => by rw [q, hp] at e; cases e
  h.grow (Sub.refl _) (fun a c => by
    obtain ⟨xs, e, -⟩ := h.owned c
    rw [upd_ne (zn a _ e)]) (fun a u e => by rw [upd_ne (zn a u (h.zh a u e))]; exact h.zh a u e) (fun a u e => by rw [upd_ne (zn a u (h.gh a u e))]; exact h.gh a u e) fun a c => (h.ow a c).1
/-- .. and frozen -/
theorem S3.laidZ {p : Addr} {o : HO} (h : S3 K G Z H ks vs r s) (hp : H p = none) : Sub Z (upd Z p o) ∧ S3 K G (upd Z p o) (upd H p o) ks vs r s := by
  have hz : Z p = none := by
    cases q : Z p with
    | none => rfl
    | some u => have := h.zh p u q; rw [hp] at this; cases this
  have sz : Sub Z (upd Z p o) := fun a u e => by
    rw [upd_ne (fun q => by rw [q, hz] at e; cases e)]
    exact e
  have h1 := h.laid (o := o) hp
  refine ⟨sz, h1.grow sz (fun _ _ => rfl) (fun a u e => ?_) h1.gh fun a c => ?_⟩
  · by_cases q : a = p
    · subst q; rw [upd_same] at e ⊢; exact e
    · rw [upd_ne q] at e ⊢; exact h.zh a u e
  · obtain ⟨xs, e, -⟩ := h.owned c
    rw [upd_ne (fun q => by rw [q, hp] at e; cases e)]
    exact (h.ow a c).1
/-- several on top: as a list of one's own, newly laid -/
theorem S3.mkOwn {l : List T} {xs : List V} {p : Addr} (h : S3 K G Z H (l ++ ks) (xs ++ vs) r s) (hl : l.length = xs.length) (hp : H p = none) : S3 K G Z (upd H p (.lst xs)) (.own p l :: ks) (.ref p :: vs) r s := by
  have h1 := h.laid (o := .lst xs) hp
  have cp : cts p (l ++ ks) + cto p r = 0 := by
    by_cases c : 0 < cts p (l ++ ks) + cto p r
    · obtain ⟨ys, e, -⟩ := h.owned c
      rw [hp] at e; cases e
    · omega
  have split : ∀ (H2 : Hp) (l : List T) (xs : List V), l.length = xs.length → RTs K Z H2 (l ++ ks) (xs ++ vs) → RTs K Z H2 l xs ∧ RTs K Z H2 ks vs := by
    intro H2 l
    induction l with
    | nil => intro xs hl q; cases xs with | nil => exact ⟨.nil, q⟩ | cons _ _ => simp at hl
    | cons t l ih =>
      intro xs hl q
      cases xs with
      | nil => simp at hl
      | cons x xs =>
        cases q with
        | cons q1 q2 =>
          obtain ⟨z1, z2⟩ := ih xs (by simpa using hl) q2
          exact ⟨.cons q1 z1, z2⟩
  obtain ⟨q1, q2⟩ := split _ l xs hl h1.stk
  refine ⟨h1.zh, h1.gh, fun a => ?_, fun a c => ?_, .cons (.own upd_same q1) q2, h1.slot, h1.len⟩
  · have := h.one a
    rw [cts_append] at this cp
    simp only [cts, ct]
    by_cases e : p = a
    · subst e; simp; omega
    · simp only [if_neg e]; omega
  · simp only [cts, ct] at c
    by_cases e : p = a
    · subst e
      constructor
      · cases q : Z p with
        | none => rfl
        | some u => have := h.zh p u q; rw [hp] at this; cases this
      · cases q : G p with
        | none => rfl
        | some u => have := h.gh p u q; rw [hp] at this; cases this
    · simp only [if_neg e] at c
      exact h.ow a (by rw [cts_append]; omega)
end
end L3
namespace L3
open PySem PySem.Spec PyProof.Rows L2
/-- data is added; what is not ours is not made ours -/
structure Gr (G Z Z' : Hp) : Prop where
  sub : Sub Z Z'
  out : ∀ a o, G a = some o → Z a = none → Z' a = none
theorem Gr.refl (G Z : Hp) : Gr G Z Z := ⟨Sub.refl Z, fun _ _ _ h => h⟩
theorem Gr.trans {G A B C : Hp} (h : Gr G A B) (k : Gr G B C) : Gr G A C := ⟨h.sub.trans k.sub, fun a o e n => k.out a o e (h.out a o e n)⟩
section
variable {K : PySem.W.Frag} {G Z Z' H H' : Hp} {ks : List T} {vs : List V} {r r' : Rho} {s : L2.St} {t : T} {v : V} {i : Nat} {a : Addr}
theorem S3.freezeG (h : S3 K G Z H (t :: ks) (v :: vs) r s) (n : nv t = true) : ∃ Z', Gr G Z Z' ∧ S3 K G Z' H (.d (fz t) :: ks) (v :: vs) r s := by
  have sz : Sub Z (fun a => if 0 < ct a t then H a else Z a) := fun a o e => by
    show (if 0 < ct a t then H a else Z a) = some o
    split
    · exact h.zh a o e
    · exact e
  have hp : S3 K G (fun a => if 0 < ct a t then H a else Z a) H ks vs r s := h.pop.grow sz (fun _ _ => rfl) (fun a o e => by
      by_cases c : 0 < ct a t
      · simpa [c] using e
      · simp [c] at e; exact h.zh a o e) h.gh (fun a c => by
      have h1 := h.one a
      simp only [cts] at h1
      rw [if_neg (by omega)]
      exact (h.ow a (by simp only [cts]; omega)).1)
  refine ⟨_, ⟨sz, fun a o e n => ?_⟩, hp.pushD (rt_fz sz t v n (fun a c o e => by show (if 0 < ct a t then H a else Z a) = some o; rw [if_pos c]; exact e) h.top)⟩
  show (if 0 < ct a t then H a else Z a) = none
  by_cases c : 0 < ct a t
  · have := (h.ow a (by simp only [cts]; omega)).2
    rw [this] at e; cases e
  · rw [if_neg c]; exact n
theorem S3.laidG {p : Addr} {o : HO} (h : S3 K G Z H ks vs r s) (hp : H p = none) : Gr G Z (upd Z p o) ∧ S3 K G (upd Z p o) (upd H p o) ks vs r s := by
  obtain ⟨h1, h2⟩ := h.laidZ (o := o) hp
  refine ⟨⟨h1, fun a u e n => ?_⟩, h2⟩
  rw [upd_ne (fun q => by rw [q] at e; have := h.gh p u e; rw [hp] at this; cases this)]
  exact n
end
abbrev TE3 := Rho → (T → Rho → Prop) → Prop
abbrev TT3 := Rho → (Bool → Rho → Prop) → Prop
/-- what a value read is, as long as data is only added -/
def Pv (K : PySem.W.Frag) (Z : Hp) (r : Rho) (s : L2.St) (t : T) (v : V) : Prop :=
  match t with
  | .d x => Dq K Z v x
  | .v x => v = x
  | .sc a ns => v = .ref a ∧ SqL K Z a (ns.map V.int)
  | t => ∀ G Z' H ks vs, Sub Z Z' → S3 K G Z' H ks vs r s → RT K Z' H t v
/-- an expression whose value is put on top (a new list, or data) -/
structure P3 (X : Cx) (e : Expr) (t : TE3) : Prop where
  ex : ∃ te : TE, PE X e te ∧ ∀ (G Z H : Hp) (ks : List T) (vs : List V) (r : Rho) (s : L2.St) (Q : VK) (Q3 : T → Rho → Prop), S3 X.K G Z H ks vs r s → t r Q3 →
    (∀ Z' H' x v r', Gr G Z Z' → S3 X.K G Z' H' (x :: ks) (v :: vs) r' s → Q3 x r' → Q v H') → te s H Q
/-- an expression whose value is read -/
structure R3 (X : Cx) (e : Expr) (t : TE3) : Prop where
  ex : ∃ te : TE, PE X e te ∧ ∀ (G Z H : Hp) (ks : List T) (vs : List V) (r : Rho) (s : L2.St) (Q : VK) (Q3 : T → Rho → Prop), S3 X.K G Z H ks vs r s → t r Q3 →
    (∀ Z' H' x v r', Gr G Z Z' → S3 X.K G Z' H' ks vs r' s → Pv X.K Z' r' s x v → Q3 x r' → Q v H') → te s H Q
/-- a test -/
structure T3 (X : Cx) (e : Expr) (t : TT3) : Prop where
  ex : ∃ te : TT, PT X e te ∧ ∀ (G Z H : Hp) (ks : List T) (vs : List V) (r : Rho) (s : L2.St) (Q : Bool → Hp → Prop) (Q3 : Bool → Rho → Prop), S3 X.K G Z H ks vs r s → t r Q3 →
    (∀ Z' H' b r', Gr G Z Z' → S3 X.K G Z' H' ks vs r' s → Q3 b r' → Q b H') → te s H Q
/-- .. whatever its whole is (and, or) -/
structure W3 (X : Cx) (e : Expr) (t : TT3) : Prop where
  ex : ∃ te : TT, PW X e te ∧ ∀ (G Z H : Hp) (ks : List T) (vs : List V) (r : Rho) (s : L2.St) (Q : Bool → Hp → Prop) (Q3 : Bool → Rho → Prop), S3 X.K G Z H ks vs r s → t r Q3 →
    (∀ Z' H' b r', Gr G Z Z' → S3 X.K G Z' H' ks vs r' s → Q3 b r' → Q b H') → te s H Q
section
variable {K : PySem.W.Frag} {G Z Z' H H' : Hp} {ks : List T} {vs : List V} {r r' : Rho} {s : L2.St} {t : T} {v : V} {i : Nat} {a : Addr}
theorem Pv.keep (h : Pv K Z r s t v) (z : Sub Z Z') : Pv K Z' r s t v := by
  cases t with
  | d x => exact dp_mono z x v h
  | v x => exact h
  | sc a ns => exact ⟨h.1, z.L h.2⟩
  | own a l => exact fun G Z2 H ks vs q => h G Z2 H ks vs (z.trans q)
  | tp l => exact fun G Z2 H ks vs q => h G Z2 H ks vs (z.trans q)
  | ob _ _ _ _ _ _ => exact fun G Z2 H ks vs q => h G Z2 H ks vs (z.trans q)
  | hx _ _ _ => exact fun G Z2 H ks vs q => h G Z2 H ks vs (z.trans q)
theorem Pv.now (h : Pv K Z r s t v) (q : S3 K G Z H ks vs r s) : RT K Z H t v := by
  cases t with
  | d x => exact .d h
  | v x => rw [show v = x from h]; exact .v
  | sc a ns => rw [show v = .ref a from h.1]; exact .sc h.2
  | own a l => exact h G Z H ks vs (Sub.refl _) q
  | tp l => exact h G Z H ks vs (Sub.refl _) q
  | ob _ _ _ _ _ _ => exact h G Z H ks vs (Sub.refl _) q
  | hx _ _ _ => exact h G Z H ks vs (Sub.refl _) q
/-- a read value as data, over the whole heap -/
theorem Pv.data (h : Pv K Z r s t v) (q : S3 K G Z H ks vs r s) (n : nv t = true) : Dq K H v (fz t) := rt_fz q.zh t v n (fun _ _ _ e => e) (h.now q)
theorem Pv.int {i : Int} (h : Pv K Z r s (.d (.int i)) v) : v = .int i := by
  cases (show Dq K Z v (.int i) from h)
  rfl
theorem Pv.bool {b : Bool} (h : Pv K Z r s (.d (.bool b)) v) : v = .bl b := by
  cases (show Dq K Z v (.bool b) from h)
  rfl
theorem Pv.str {x : Str} (h : Pv K Z r s (.d (.str x)) v) : v = .str x := by
  cases (show Dq K Z v (.str x) from h)
  rfl
end
/-- the first of two values read, behind the second one -/
structure Pv2 (K : PySem.W.Frag) (Z : Hp) (r1 r2 : Rho) (s : L2.St) (t : T) (v : V) : Prop where
  dat : ∀ x, t = .d x → Dq K Z v x
  val : ∀ x, t = .v x → v = x
  scr : ∀ a ns, t = .sc a ns → v = .ref a ∧ SqL K Z a (ns.map V.int)
  same : r2 = r1 → Pv K Z r2 s t v
theorem Pv.two {K : PySem.W.Frag} {Z Z' : Hp} {r1 r2 : Rho} {s : L2.St} {t : T} {v : V} (h : Pv K Z r1 s t v) (z : Sub Z Z') : Pv2 K Z' r1 r2 s t v :=
  ⟨fun x e => by subst e; exact dp_mono z x v h, fun x e => by subst e; exact h, fun a ns e => by subst e; exact ⟨h.1, z.L h.2⟩, fun e => by subst e; exact h.keep z⟩
theorem Pv2.int {K : PySem.W.Frag} {Z : Hp} {r1 r2 : Rho} {s : L2.St} {i : Int} {v : V} (h : Pv2 K Z r1 r2 s (.d (.int i)) v) : v = .int i := by
  cases h.dat _ rfl
  rfl
/-! ### what a value is -/
def asI (t : T) (k : Int → Prop) : Prop := match t with | .d (.int i) => k i | _ => False
def asB (t : T) (k : Bool → Prop) : Prop := match t with | .d (.bool b) => k b | _ => False
def asS (t : T) (k : Str → Prop) : Prop := match t with | .d (.str x) => k x | _ => False
theorem asI_of {t : T} {k : Int → Prop} (h : asI t k) : ∃ i, t = .d (.int i) ∧ k i := by
  unfold asI at h
  split at h
  · exact ⟨_, rfl, h⟩
  · exact h.elim
theorem asB_of {t : T} {k : Bool → Prop} (h : asB t k) : ∃ i, t = .d (.bool i) ∧ k i := by
  unfold asB at h
  split at h
  · exact ⟨_, rfl, h⟩
  · exact h.elim
theorem asS_of {t : T} {k : Str → Prop} (h : asS t k) : ∃ i, t = .d (.str i) ∧ k i := by
  unfold asS at h
  split at h
  · exact ⟨_, rfl, h⟩
  · exact h.elim
section
variable {X : Cx} {e a b c : Expr} {t ta tb tc : TE3} {pos : Pos}
/-! ### from one reading to the other -/
/-- data read is data on top -/
def xD (t : TE3) : TE3 := fun r Q => t r fun x r' => match x with | .d y => Q (.d y) r' | .v y => Q (.v y) r' | .sc a ns => Q (.sc a ns) r' | _ => False
theorem p3 (h : R3 X e t) : P3 X e (xD t) := by
  obtain ⟨te, he, hs⟩ := h.ex
  refine ⟨te, he, fun G Z H ks vs r s Q Q3 st ht k => hs G Z H ks vs r s Q _ st ht fun Z' H' x v r' gr st' pv q => ?_⟩
  cases x with
  | d y => exact k Z' H' (.d y) v r' gr (st'.pushD pv) q
  | v y => exact k Z' H' (.v y) v r' gr (st'.push (fun _ => rfl) (by rw [show v = y from pv]; exact .v)) q
  | sc a ns => exact k Z' H' (.sc a ns) v r' gr (st'.push (fun _ => rfl) (by rw [show v = .ref a from pv.1]; exact .sc pv.2)) q
  | own a l => exact q.elim
  | tp l => exact q.elim
  | ob _ _ _ _ _ _ => exact q.elim
  | hx _ _ _ => exact q.elim
/-- what is on top is frozen and read -/
def xFz (t : TE3) : TE3 := fun r Q => t r fun x r' => match x with | .d y => Q (.d y) r' | .v y => Q (.v y) r' | .sc a ns => Q (.sc a ns) r' | x => nv x = true ∧ Q (.d (fz x)) r'
theorem r3 (h : P3 X e t) : R3 X e (xFz t) := by
  obtain ⟨te, he, hs⟩ := h.ex
  refine ⟨te, he, fun G Z H ks vs r s Q Q3 st ht k => hs G Z H ks vs r s Q _ st ht fun Z' H' x v r' gr st' q => ?_⟩
  have fin : ∀ x : T, nv x = true → S3 X.K G Z' H' (x :: ks) (v :: vs) r' s → Q3 (.d (fz x)) r' → Q v H' := fun x n st' q => by
    obtain ⟨Z2, g2, st2⟩ := st'.freezeG n
    have h := st2.top
    cases h with
    | d h => exact k Z2 H' (.d (fz x)) v r' (gr.trans g2) st2.pop h q
  cases x with
  | d y => exact fin (.d y) rfl st' q
  | v y =>
    have h := st'.top
    have e1 : v = y := by cases h; rfl
    exact k Z' H' (.v y) v r' gr st'.pop e1 q
  | sc a ns =>
    have h := st'.top
    cases h with
    | sc h => exact k Z' H' (.sc a ns) _ r' gr st'.pop ⟨rfl, h⟩ q
  | own a l => exact fin _ q.1 st' q.2
  | tp l => exact fin _ q.1 st' q.2
  | ob _ _ _ _ _ _ => exact fin _ q.1 st' q.2
  | hx _ _ _ => exact fin _ q.1 st' q.2
/-! ### names, constants -/
def xView (i : Nat) : TE3 := fun r Q => match r[i]? with | some (some t) => Q t r | _ => False
theorem view_of {i : Nat} {r : Rho} {Q : T → Rho → Prop} (h : xView i r Q) : ∃ t, r[i]? = some (some t) ∧ Q t r := by
  unfold xView at h
  split at h
  · exact ⟨_, by assumption, h⟩
  · exact h.elim
theorem r3_name (i : Nat) {x : Str} (hN : X.N[i]? = some x := by rfl) (hv : Vis X.env.scope x := by first | exact Or.inl rfl | exact Or.inr (Or.inl rfl) | exact Or.inr (Or.inr rfl)) (hd : (x == ("__debug__" : Str)) = false := by decide)
    (hcd : (x == ("__classdict__" : Str)) = false := by decide) : R3 X (.Name x pos) (xView i) := by
  refine ⟨tVar i, pe_var hN hv hd hcd, fun G Z H ks vs r s Q Q3 st ht k => ?_⟩
  obtain ⟨t, e, q⟩ := view_of ht
  obtain ⟨v, ev, rt⟩ := st.slot i t e
  refine ⟨v, ev, k Z H t v r (Gr.refl _ _) st ?_ q⟩
  have gen : ∀ G Z' H ks vs, Sub Z Z' → S3 X.K G Z' H ks vs r s → RT X.K Z' H t v := fun G Z' H ks vs _ st' => by
    obtain ⟨v', ev', rt'⟩ := st'.slot i t e
    rw [ev] at ev'; cases ev'
    exact rt'
  cases t with
  | d x => cases rt with | d h => exact h
  | v x => cases rt; rfl
  | sc a ns => cases rt with | sc h => exact ⟨rfl, h⟩
  | own a l => exact gen
  | tp l => exact gen
  | ob _ _ _ _ _ _ => exact gen
  | hx _ _ _ => exact gen
/-- a name whose own list is moved away -/
def xMove (i : Nat) : TE3 := fun r Q => match r[i]? with | some (some (.d x)) => Q (.d x) r | some (some (.v x)) => Q (.v x) r | some (some (.sc a ns)) => Q (.sc a ns) r | some (some t) => Q t (r.set i none) | _ => False
theorem p3_move (i : Nat) {x : Str} (hN : X.N[i]? = some x := by rfl) (hv : Vis X.env.scope x := by first | exact Or.inl rfl | exact Or.inr (Or.inl rfl) | exact Or.inr (Or.inr rfl)) (hd : (x == ("__debug__" : Str)) = false := by decide)
    (hcd : (x == ("__classdict__" : Str)) = false := by decide) : P3 X (.Name x pos) (xMove i) := by
  refine ⟨tVar i, pe_var hN hv hd hcd, fun G Z H ks vs r s Q Q3 st ht k => ?_⟩
  unfold xMove at ht
  split at ht
  · rename_i x e
    obtain ⟨v, ev, rt⟩ := st.slot i _ e
    exact ⟨v, ev, k Z H _ v r (Gr.refl _ _) (st.push (fun _ => rfl) rt) ht⟩
  · rename_i x e
    obtain ⟨v, ev, rt⟩ := st.slot i _ e
    exact ⟨v, ev, k Z H _ v r (Gr.refl _ _) (st.push (fun _ => rfl) rt) ht⟩
  · rename_i a ns e
    obtain ⟨v, ev, rt⟩ := st.slot i _ e
    exact ⟨v, ev, k Z H _ v r (Gr.refl _ _) (st.push (fun _ => rfl) rt) ht⟩
  · rename_i t _ _ _ e
    obtain ⟨v, ev, st'⟩ := st.take e
    exact ⟨v, ev, k Z H _ v _ (Gr.refl _ _) st' ht⟩
  · exact ht.elim
def xC (x : PyData) : TE3 := fun r Q => Q (.d x) r
theorem r3_int {i : Int} {j} : R3 X (.Constant (.int i) j pos) (xC (.int i)) := ⟨_, pe_int, fun G Z H ks vs r s Q Q3 st ht k => k Z H (.d (.int i)) _ r (Gr.refl _ _) st (Dq.int i) ht⟩
theorem r3_bool {i : Bool} {j} : R3 X (.Constant (.bool i) j pos) (xC (.bool i)) := ⟨_, pe_bl, fun G Z H ks vs r s Q Q3 st ht k => k Z H (.d (.bool i)) _ r (Gr.refl _ _) st (Dq.bl i) ht⟩
theorem r3_none {j} : R3 X (.Constant .none j pos) (xC .none) := ⟨_, pe_non, fun G Z H ks vs r s Q Q3 st ht k => k Z H (.d .none) _ r (Gr.refl _ _) st Dq.non ht⟩
theorem r3_str {i : Str} {j} : R3 X (.Constant (.str i) j pos) (xC (.str i)) := ⟨_, pe_str, fun G Z H ks vs r s Q Q3 st ht k => k Z H (.d (.str i)) _ r (Gr.refl _ _) st (Dq.str i) ht⟩
theorem r3_globS {x : Str} {i : Str} {u : Value} (hg : Gl X x) (hm : X.mg x = some u) (rv : RelV (.str i) u) (hd : (x == ("__debug__" : Str)) = false := by decide) : R3 X (.Name x pos) (xC (.str i)) :=
  ⟨_, pe_glob hg hm rv hd, fun G Z H ks vs r s Q Q3 st ht k => k Z H (.d (.str i)) _ r (Gr.refl _ _) st (Dq.str i) ht⟩
/-! ### two operands -/
/-- what is made of two values read: the state ahead of the second one's reading, both, the state -/
abbrev C2 := Rho → T → T → TE3
def x2 (c : C2) (ta tb : TE3) : TE3 := fun r Q => ta r fun x r1 => tb r1 fun y r2 => c r1 x y r2 Q
def Con2 (X : Cx) (rd : R2) (c : C2) : Prop := ∀ (G Z H : Hp) (ks : List T) (vs : List V) (r1 r : Rho) (s : L2.St) (x y : V) (tx ty : T) (Q : VK) (Q3 : T → Rho → Prop), S3 X.K G Z H ks vs r s → Pv2 X.K Z r1 r s tx x → Pv X.K Z r s ty y → c r1 tx ty r Q3 →
  (∀ Z' H' t v r', Gr G Z Z' → S3 X.K G Z' H' ks vs r' s → Pv X.K Z' r' s t v → Q3 t r' → Q v H') → rd x y H Q
def Con2P (X : Cx) (rd : R2) (c : C2) : Prop := ∀ (G Z H : Hp) (ks : List T) (vs : List V) (r1 r : Rho) (s : L2.St) (x y : V) (tx ty : T) (Q : VK) (Q3 : T → Rho → Prop), S3 X.K G Z H ks vs r s → Pv2 X.K Z r1 r s tx x → Pv X.K Z r s ty y → c r1 tx ty r Q3 →
  (∀ Z' H' t v r', Gr G Z Z' → S3 X.K G Z' H' (t :: ks) (v :: vs) r' s → Q3 t r' → Q v H') → rd x y H Q
theorem two_run {rd : R2} {c : C2} (hc : Con2 X rd c) {tea teb : TE} (ha : ∀ (G Z H : Hp) (ks : List T) (vs : List V) (r : Rho) (s : L2.St) (Q : VK) (Q3 : T → Rho → Prop), S3 X.K G Z H ks vs r s → ta r Q3 →
    (∀ Z' H' x v r', Gr G Z Z' → S3 X.K G Z' H' ks vs r' s → Pv X.K Z' r' s x v → Q3 x r' → Q v H') → tea s H Q)
    (hb : ∀ (G Z H : Hp) (ks : List T) (vs : List V) (r : Rho) (s : L2.St) (Q : VK) (Q3 : T → Rho → Prop), S3 X.K G Z H ks vs r s → tb r Q3 →
    (∀ Z' H' x v r', Gr G Z Z' → S3 X.K G Z' H' ks vs r' s → Pv X.K Z' r' s x v → Q3 x r' → Q v H') → teb s H Q) :
    ∀ (G Z H : Hp) (ks : List T) (vs : List V) (r : Rho) (s : L2.St) (Q : VK) (Q3 : T → Rho → Prop), S3 X.K G Z H ks vs r s → x2 c ta tb r Q3 →
    (∀ Z' H' x v r', Gr G Z Z' → S3 X.K G Z' H' ks vs r' s → Pv X.K Z' r' s x v → Q3 x r' → Q v H') → tOp rd tea teb s H Q :=
  fun G Z H ks vs r s Q Q3 st ht k => ha G Z H ks vs r s _ _ st ht fun Z1 H1 x v r1 g1 st1 p1 q1 => hb G Z1 H1 ks vs r1 s _ _ st1 q1 fun Z2 H2 y u r2 g2 st2 p2 q2 =>
    hc G Z2 H2 ks vs r1 r2 s v u x y Q Q3 st2 (p1.two g2.sub) p2 q2 fun Z3 H3 t w r3 g3 => k Z3 H3 t w r3 ((g1.trans g2).trans g3)
theorem r3_op {op : Operator} {rd : R2} {c : C2} (ho : OpR X (binaryOp op) rd) (hc : Con2 X rd c) (ha : R3 X a ta) (hb : R3 X b tb) : R3 X (.BinOp a op b pos) (x2 c ta tb) := by
  obtain ⟨tea, ea, sa⟩ := ha.ex
  obtain ⟨teb, eb, sb⟩ := hb.ex
  exact ⟨_, pe_op ho ea eb, two_run hc sa sb⟩
theorem p3_op {op : Operator} {rd : R2} {c : C2} (ho : OpR X (binaryOp op) rd) (hc : Con2P X rd c) (ha : R3 X a ta) (hb : R3 X b tb) : P3 X (.BinOp a op b pos) (x2 c ta tb) := by
  obtain ⟨tea, ea, sa⟩ := ha.ex
  obtain ⟨teb, eb, sb⟩ := hb.ex
  exact ⟨_, pe_op ho ea eb, fun G Z H ks vs r s Q Q3 st ht k => sa G Z H ks vs r s _ _ st ht fun Z1 H1 x v r1 g1 st1 p1 q1 => sb G Z1 H1 ks vs r1 s _ _ st1 q1 fun Z2 H2 y u r2 g2 st2 p2 q2 =>
    hc G Z2 H2 ks vs r1 r2 s v u x y Q Q3 st2 (p1.two g2.sub) p2 q2 fun Z3 H3 t w r3 g3 => k Z3 H3 t w r3 ((g1.trans g2).trans g3)⟩
theorem r3_cmp {op : CmpOp} {rd : R2} {c : C2} (ho : OpR X (compareOp op) rd) (hc : Con2 X rd c) (ha : R3 X a ta) (hb : R3 X b tb) (hm : behindInMarks op b = false) : R3 X (.Compare a [op] [b] pos) (x2 c ta tb) := by
  obtain ⟨tea, ea, sa⟩ := ha.ex
  obtain ⟨teb, eb, sb⟩ := hb.ex
  exact ⟨_, pe_cmpR ho ea eb hm, two_run hc sa sb⟩
/-- a value that is a truth, as a test -/
def xTest (t : TE3) : TT3 := fun r Q => t r fun x r' => asB x fun b => Q b r'
theorem t3_cmp {op : CmpOp} {rd : R2} {c : C2} (ho : OpR X (compareOp op) rd) (hc : Con2 X rd c) (ha : R3 X a ta) (hb : R3 X b tb) (hm : behindInMarks op b = false) : T3 X (.Compare a [op] [b] pos) (xTest (x2 c ta tb)) := by
  obtain ⟨tea, ea, sa⟩ := ha.ex
  obtain ⟨teb, eb, sb⟩ := hb.ex
  refine ⟨_, pt_cmpR ho ea eb hm, fun G Z H ks vs r s Q Q3 st ht k => two_run hc sa sb G Z H ks vs r s _ _ st ht fun Z' H' x v r' g st' pv q => ?_⟩
  obtain ⟨b, rfl, q⟩ := asB_of q
  exact ⟨b, pv.bool, k Z' H' b r' g st' q⟩
theorem t3_val (h : R3 X e t) (he : ∀ whole, isTrue e X.env whole = (do let v ← whole; standAt e.pos; holding [v] (truthy v)) := by intro _; rfl) : T3 X e (xTest t) := by
  obtain ⟨te, ea, sa⟩ := h.ex
  refine ⟨_, pt_val ea he, fun G Z H ks vs r s Q Q3 st ht k => sa G Z H ks vs r s _ _ st ht fun Z' H' x v r' g st' pv q => ?_⟩
  obtain ⟨b, rfl, q⟩ := asB_of q
  exact ⟨b, pv.bool, k Z' H' b r' g st' q⟩
/-- two ints -/
def cI (C : Int → Int → Prop) (g : Int → Int → PyData) : C2 := fun _ x y r Q => asI x fun i => asI y fun j => C i j ∧ Q (.d (g i j)) r
def isScal : PyData → V → Prop
  | .int i, v => v = .int i
  | .bool b, v => v = .bl b
  | _, _ => False
theorem isScal.dp {K : PySem.W.Frag} {Z : Hp} {x : PyData} {v : V} (h : isScal x v) : Dq K Z v x := by
  cases x with
  | int i => rw [show v = .int i from h]; exact .int i
  | bool b => rw [show v = .bl b from h]; exact .bl b
  | none => exact False.elim h
  | str _ => exact False.elim h
  | list _ => exact False.elim h
  | tuple _ => exact False.elim h
  | dict _ => exact False.elim h
theorem con_I {C C' : Int → Int → Prop} {g : Int → Int → PyData} {g' : Int → Int → V} (hC : ∀ i j, C i j → C' i j) (hg : ∀ i j, C i j → isScal (g i j) (g' i j)) : Con2 X (rI C' g') (cI C g) :=
  fun G Z H ks vs r1 r s x y tx ty Q Q3 st px py hc k => by
    obtain ⟨i, rfl, h1⟩ := asI_of hc
    obtain ⟨j, rfl, h2, q⟩ := asI_of h1
    exact ⟨i, j, px.int, py.int, hC i j h2, k Z H (.d (g i j)) _ r (Gr.refl _ _) st (hg i j h2).dp q⟩
def cI0 (g : Int → Int → PyData) : C2 := fun _ x y r Q => asI x fun i => asI y fun j => Q (.d (g i j)) r
theorem con_I0 {g : Int → Int → PyData} {g' : Int → Int → V} (hg : ∀ i j, isScal (g i j) (g' i j)) : Con2 X (rI0 g') (cI0 g) :=
  fun G Z H ks vs r1 r s x y tx ty Q Q3 st px py hc k => by
    obtain ⟨i, rfl, h1⟩ := asI_of hc
    obtain ⟨j, rfl, q⟩ := asI_of h1
    exact ⟨i, j, px.int, py.int, k Z H (.d (g i j)) _ r (Gr.refl _ _) st (hg i j).dp q⟩
/-- two factors: one is small, or both are not too long -/
def MulOk (i j : Int) : Prop := CMul i j ∨ CMulW i j
theorem MulOk.ok {i j : Int} (h : MulOk i j) : IntMulOk i j := h.elim CMul.ok CMulW.ok
theorem op_mul3 : OpR X (binaryOp .Mult) (rI MulOk fun i j => .int (i * j)) := opI fun _ _ _ _ _ _ _ hc q => mul_int q hc.ok
theorem r3_add (ha : R3 X a ta) (hb : R3 X b tb) : R3 X (.BinOp a .Add b pos) (x2 (cI0 fun i j => .int (i + j)) ta tb) := r3_op op_add (con_I0 fun _ _ => rfl) ha hb
theorem r3_sub (ha : R3 X a ta) (hb : R3 X b tb) : R3 X (.BinOp a .Sub b pos) (x2 (cI0 fun i j => .int (i - j)) ta tb) := r3_op op_sub (con_I0 fun _ _ => rfl) ha hb
theorem r3_mul (ha : R3 X a ta) (hb : R3 X b tb) : R3 X (.BinOp a .Mult b pos) (x2 (cI MulOk fun i j => .int (i * j)) ta tb) := r3_op op_mul3 (con_I (fun _ _ h => h) fun _ _ _ => rfl) ha hb
theorem r3_fdiv (ha : R3 X a ta) (hb : R3 X b tb) : R3 X (.BinOp a .FloorDiv b pos) (x2 (cI CDivW fun i j => .int (i / j)) ta tb) := r3_op op_fdivW (con_I (fun _ _ h => h) fun _ _ _ => rfl) ha hb
theorem r3_mod (ha : R3 X a ta) (hb : R3 X b tb) : R3 X (.BinOp a .Mod b pos) (x2 (cI (fun _ j => 0 < j) fun i j => .int (i % j)) ta tb) := r3_op op_mod (con_I (fun _ _ h => h) fun _ _ _ => rfl) ha hb
theorem r3_pow (ha : R3 X a ta) (hb : R3 X b tb) : R3 X (.BinOp a .Pow b pos) (x2 (cI CPow fun i j => .int (i ^ j.toNat)) ta tb) := r3_op op_pow (con_I (fun _ _ h => h) fun _ _ _ => rfl) ha hb
theorem con_cmp {p : Int → Int → Bool} : Con2 X (rI0 fun i j => .bl (p i j)) (cI0 fun i j => .bool (p i j)) := con_I0 fun _ _ => rfl
theorem r3_gt (ha : R3 X a ta) (hb : R3 X b tb) : R3 X (.Compare a [.Gt] [b] pos) (x2 (cI0 fun i j => .bool (decide (j < i))) ta tb) := r3_cmp op_gt con_cmp ha hb (nomark _)
theorem t3_lt (ha : R3 X a ta) (hb : R3 X b tb) : T3 X (.Compare a [.Lt] [b] pos) (xTest (x2 (cI0 fun i j => .bool (decide (i < j))) ta tb)) := t3_cmp op_lt con_cmp ha hb (nomark _)
theorem t3_gt (ha : R3 X a ta) (hb : R3 X b tb) : T3 X (.Compare a [.Gt] [b] pos) (xTest (x2 (cI0 fun i j => .bool (decide (j < i))) ta tb)) := t3_cmp op_gt con_cmp ha hb (nomark _)
/-- == of data (lists of one's own are read) -/
def asF (r1 r : Rho) (t : T) (k : PyData → Prop) : Prop := match t with | .d x => k x | .v _ => False | .sc _ _ => False | t => r = r1 ∧ nv t = true ∧ k (fz t)
theorem asF_of {K : PySem.W.Frag} {G Z H : Hp} {ks : List T} {vs : List V} {r1 r : Rho} {s : L2.St} {t : T} {v : V} {k : PyData → Prop} (h : asF r1 r t k) (st : S3 K G Z H ks vs r s) (p : Pv2 K Z r1 r s t v) : ∃ x, (x.canLay0 = true → Dp K H v x) ∧ k x := by
  cases t with
  | d x => exact ⟨x, fun c => dq_dp _ _ c (dp_mono st.zh x v (p.dat x rfl)), h⟩
  | v x => exact h.elim
  | sc _ _ => exact h.elim
  | own a l => exact ⟨_, fun c => dq_dp _ _ c ((p.same h.1).data st h.2.1), h.2.2⟩
  | tp l => exact ⟨_, fun c => dq_dp _ _ c ((p.same h.1).data st h.2.1), h.2.2⟩
  | ob _ _ _ _ _ _ => exact ⟨_, fun c => dq_dp _ _ c ((p.same h.1).data st h.2.1), h.2.2⟩
  | hx _ _ _ => exact ⟨_, fun c => dq_dp _ _ c ((p.same h.1).data st h.2.1), h.2.2⟩
theorem Pv.self {K : PySem.W.Frag} {Z : Hp} {r : Rho} {s : L2.St} {t : T} {v : V} (h : Pv K Z r s t v) : Pv2 K Z r r s t v := h.two (Sub.refl _)
def cEq (g : Bool → Bool) : C2 := fun r1 x y r Q => asF r1 r x fun d => asF r r y fun e => SeqAt.shaped d = true ∧ SeqAt.shaped e = true ∧ Q (.d (.bool (g (PyData.eqv d e)))) r
theorem con_eq : Con2 X (rEqD X.K) (cEq fun b => b) := fun G Z H ks vs r1 r s x y tx ty Q Q3 st px py hc k => by
  obtain ⟨d, hd, hc⟩ := asF_of hc st px
  obtain ⟨e, he, h1, h2, q⟩ := asF_of hc st py.self
  exact ⟨d, e, hd (SeqAt.canLay_of_shaped h1), he (SeqAt.canLay_of_shaped h2), h1, h2, k Z H (.d (.bool _)) _ r (Gr.refl _ _) st (Dq.bl _) q⟩
theorem con_ne : Con2 X (rNeD X.K) (cEq fun b => !b) := fun G Z H ks vs r1 r s x y tx ty Q Q3 st px py hc k => by
  obtain ⟨d, hd, hc⟩ := asF_of hc st px
  obtain ⟨e, he, h1, h2, q⟩ := asF_of hc st py.self
  exact ⟨d, e, hd (SeqAt.canLay_of_shaped h1), he (SeqAt.canLay_of_shaped h2), h1, h2, k Z H (.d (.bool _)) _ r (Gr.refl _ _) st (Dq.bl _) q⟩
theorem r3_eq (hu : X.A.units + 64 < cLine) (ha : R3 X a ta) (hb : R3 X b tb) : R3 X (.Compare a [.Eq] [b] pos) (x2 (cEq fun b => b) ta tb) := r3_cmp (op_eqD hu) con_eq ha hb (nomark _)
theorem t3_eq (hu : X.A.units + 64 < cLine) (ha : R3 X a ta) (hb : R3 X b tb) : T3 X (.Compare a [.Eq] [b] pos) (xTest (x2 (cEq fun b => b) ta tb)) := t3_cmp (op_eqD hu) con_eq ha hb (nomark _)
theorem t3_ne (hu : X.A.units + 64 < cLine) (ha : R3 X a ta) (hb : R3 X b tb) : T3 X (.Compare a [.NotEq] [b] pos) (xTest (x2 (cEq fun b => !b) ta tb)) := t3_cmp (op_neD hu) con_ne ha hb (nomark _)
/-- == of two ints, without further ado -/
def cEqI (g : Bool → Bool) : C2 := fun _ x y r Q => asI x fun i => asI y fun j => Q (.d (.bool (g (decide (i = j))))) r
theorem con_eqI : Con2 X rEq (cEqI fun b => b) := fun G Z H ks vs r1 r s x y tx ty Q Q3 st px py hc k => by
  obtain ⟨i, rfl, hc1⟩ := asI_of hc
  obtain ⟨j, rfl, q⟩ := asI_of hc1
  cases px.int
  cases py.int
  refine ⟨rfl, k Z H _ _ r (Gr.refl _ _) st ?_ q⟩
  have e : decide (V.int i = V.int j) = decide (i = j) := by
    rw [dec_int]; exact Bool.beq_eq_decide_eq i j
  show Dq X.K Z _ _
  rw [e]
  exact .bl _
theorem con_neI : Con2 X rNe (cEqI fun b => !b) := fun G Z H ks vs r1 r s x y tx ty Q Q3 st px py hc k => by
  obtain ⟨i, rfl, hc1⟩ := asI_of hc
  obtain ⟨j, rfl, q⟩ := asI_of hc1
  cases px.int
  cases py.int
  refine ⟨rfl, k Z H _ _ r (Gr.refl _ _) st ?_ q⟩
  have e : decide (V.int i = V.int j) = decide (i = j) := by
    rw [dec_int]; exact Bool.beq_eq_decide_eq i j
  show Dq X.K Z _ _
  rw [e]
  exact .bl _
theorem r3_eqI (ha : R3 X a ta) (hb : R3 X b tb) : R3 X (.Compare a [.Eq] [b] pos) (x2 (cEqI fun b => b) ta tb) := r3_cmp op_eq con_eqI ha hb (nomark _)
theorem t3_eqI (ha : R3 X a ta) (hb : R3 X b tb) : T3 X (.Compare a [.Eq] [b] pos) (xTest (x2 (cEqI fun b => b) ta tb)) := t3_cmp op_eq con_eqI ha hb (nomark _)
theorem t3_neI (ha : R3 X a ta) (hb : R3 X b tb) : T3 X (.Compare a [.NotEq] [b] pos) (xTest (x2 (cEqI fun b => !b) ta tb)) := t3_cmp op_ne con_neI ha hb (nomark _)
/-- is None -/
def isN : T → Bool
  | .d .none => true
  | .v x => decide (x = V.non)
  | _ => false
def plainT : T → Prop
  | .d _ => True
  | .v _ => True
  | _ => False
def cIsN (g : Bool → Bool) : C2 := fun _ x y r Q => (match y with | .d .none => plainT x ∧ Q (.d (.bool (g (isN x)))) r | _ => False)
theorem cIsN_of {g : Bool → Bool} {r1 r : Rho} {x y : T} {Q : T → Rho → Prop} (h : cIsN g r1 x y r Q) : y = .d .none ∧ plainT x ∧ Q (.d (.bool (g (isN x)))) r := by
  unfold cIsN at h
  split at h
  · exact ⟨rfl, h⟩
  · exact h.elim
theorem isN_of {K : PySem.W.Frag} {Z : Hp} {r1 r : Rho} {s : L2.St} {t : T} {v : V} (h : plainT t) (p : Pv2 K Z r1 r s t v) : decide (v = V.non) = isN t := by
  cases t with
  | v x => rw [p.val x rfl]; rfl
  | d x =>
    have q := p.dat x rfl
    cases q <;> rfl
  | sc _ _ => exact h.elim
  | own _ _ => exact h.elim
  | tp _ => exact h.elim
  | ob _ _ _ _ _ _ => exact h.elim
  | hx _ _ _ => exact h.elim
theorem con_isN : Con2 X (fun x y H Q => y = .non ∧ Q (.bl (decide (x = .non))) H) (cIsN fun b => b) := fun G Z H ks vs r1 r s x y tx ty Q Q3 st px py hc k => by
  obtain ⟨rfl, h1, q⟩ := cIsN_of hc
  refine ⟨by cases (show Dq X.K Z y .none from py); rfl, k Z H (.d (.bool _)) _ r (Gr.refl _ _) st ?_ q⟩
  show Dq X.K Z _ _
  rw [isN_of h1 px]
  exact .bl _
theorem con_notN : Con2 X (fun x y H Q => y = .non ∧ Q (.bl (!decide (x = .non))) H) (cIsN fun b => !b) := fun G Z H ks vs r1 r s x y tx ty Q Q3 st px py hc k => by
  obtain ⟨rfl, h1, q⟩ := cIsN_of hc
  refine ⟨by cases (show Dq X.K Z y .none from py); rfl, k Z H (.d (.bool _)) _ r (Gr.refl _ _) st ?_ q⟩
  show Dq X.K Z _ _
  rw [isN_of h1 px]
  exact .bl _
theorem t3_isN (ha : R3 X a ta) (hb : R3 X b tb) : T3 X (.Compare a [.Is] [b] pos) (xTest (x2 (cIsN fun b => b) ta tb)) := t3_cmp op_isN con_isN ha hb (nomark _)
theorem t3_notN (ha : R3 X a ta) (hb : R3 X b tb) : T3 X (.Compare a [.IsNot] [b] pos) (xTest (x2 (cIsN fun b => !b) ta tb)) := t3_cmp op_notN con_notN ha hb (nomark _)
/-! ### not, and, or; a chain of two comparisons; a if t else b; -a -/
variable {tt uu : TT3} {rest : List Expr}
def xNot (t : TT3) : TT3 := fun r Q => t r fun b r' => Q (!b) r'
theorem t3_not (ha : T3 X a tt) : T3 X (.UnaryOp .Not a pos) (xNot tt) := by
  obtain ⟨te, ea, sa⟩ := ha.ex
  exact ⟨_, pt_not ea, fun G Z H ks vs r s Q Q3 st ht k => sa G Z H ks vs r s _ _ st ht fun Z' H' b r' g st' q => k Z' H' (!b) r' g st' q⟩
def xAnd (t u : TT3) : TT3 := fun r Q => t r fun b r' => (b = true → u r' Q) ∧ (b = false → Q false r')
def xOr (t u : TT3) : TT3 := fun r Q => t r fun b r' => (b = true → Q true r') ∧ (b = false → u r' Q)
theorem w3_and1 (ha : T3 X a tt) : W3 X (.BoolOp .And [a] pos) tt := by
  obtain ⟨te, ea, sa⟩ := ha.ex
  exact ⟨_, pw_and1 ea, sa⟩
theorem w3_or1 (ha : T3 X a tt) : W3 X (.BoolOp .Or [a] pos) tt := by
  obtain ⟨te, ea, sa⟩ := ha.ex
  exact ⟨_, pw_or1 ea, sa⟩
theorem w3_and (ha : T3 X a tt) (hb : W3 X (.BoolOp .And (b :: rest) pos) uu) : W3 X (.BoolOp .And (a :: b :: rest) pos) (xAnd tt uu) := by
  obtain ⟨tea, ea, sa⟩ := ha.ex
  obtain ⟨teb, eb, sb⟩ := hb.ex
  refine ⟨_, pw_and ea eb, fun G Z H ks vs r s Q Q3 st ht k => sa G Z H ks vs r s _ _ st ht fun Z' H' c r' g st' q => ?_⟩
  cases c with
  | true => exact sb G Z' H' ks vs r' s Q Q3 st' (q.1 rfl) fun Z2 H2 d r2 g2 => k Z2 H2 d r2 (g.trans g2)
  | false => exact k Z' H' false r' g st' (q.2 rfl)
theorem w3_or (ha : T3 X a tt) (hb : W3 X (.BoolOp .Or (b :: rest) pos) uu) : W3 X (.BoolOp .Or (a :: b :: rest) pos) (xOr tt uu) := by
  obtain ⟨tea, ea, sa⟩ := ha.ex
  obtain ⟨teb, eb, sb⟩ := hb.ex
  refine ⟨_, pw_or ea eb, fun G Z H ks vs r s Q Q3 st ht k => sa G Z H ks vs r s _ _ st ht fun Z' H' c r' g st' q => ?_⟩
  cases c with
  | false => exact sb G Z' H' ks vs r' s Q Q3 st' (q.2 rfl) fun Z2 H2 d r2 g2 => k Z2 H2 d r2 (g.trans g2)
  | true => exact k Z' H' true r' g st' (q.1 rfl)
theorem t3_w (ha : W3 X a tt) : T3 X a tt := by
  obtain ⟨te, ea, sa⟩ := ha.ex
  exact ⟨_, ea.pt, sa⟩
/-- .. as values: truths -/
def xAndV (t u : TE3) : TE3 := fun r Q => t r fun x r' => asB x fun b => (b = true → u r' Q) ∧ (b = false → Q (.d (.bool false)) r')
def xOrV (t u : TE3) : TE3 := fun r Q => t r fun x r' => asB x fun b => (b = true → Q (.d (.bool true)) r') ∧ (b = false → u r' Q)
theorem r3_one {op : BoolOp} (ha : R3 X a ta) : R3 X (.BoolOp op [a] pos) ta := by
  obtain ⟨te, ea, sa⟩ := ha.ex
  exact ⟨_, pe_one ea, sa⟩
theorem r3_and (ha : R3 X a ta) (hb : R3 X (.BoolOp .And (b :: rest) pos) tb) : R3 X (.BoolOp .And (a :: b :: rest) pos) (xAndV ta tb) := by
  obtain ⟨tea, ea, sa⟩ := ha.ex
  obtain ⟨teb, eb, sb⟩ := hb.ex
  refine ⟨_, pe_and ea eb, fun G Z H ks vs r s Q Q3 st ht k => sa G Z H ks vs r s _ _ st ht fun Z' H' x v r' g st' pv q => ?_⟩
  obtain ⟨c, rfl, q⟩ := asB_of q
  refine ⟨c, pv.bool, ?_⟩
  cases c with
  | true => exact sb G Z' H' ks vs r' s Q Q3 st' (q.1 rfl) fun Z2 H2 d v2 r2 g2 => k Z2 H2 d v2 r2 (g.trans g2)
  | false => exact k Z' H' (.d (.bool false)) _ r' g st' (Dq.bl _) (q.2 rfl)
theorem r3_or (ha : R3 X a ta) (hb : R3 X (.BoolOp .Or (b :: rest) pos) tb) : R3 X (.BoolOp .Or (a :: b :: rest) pos) (xOrV ta tb) := by
  obtain ⟨tea, ea, sa⟩ := ha.ex
  obtain ⟨teb, eb, sb⟩ := hb.ex
  refine ⟨_, pe_or ea eb, fun G Z H ks vs r s Q Q3 st ht k => sa G Z H ks vs r s _ _ st ht fun Z' H' x v r' g st' pv q => ?_⟩
  obtain ⟨c, rfl, q⟩ := asB_of q
  refine ⟨c, pv.bool, ?_⟩
  cases c with
  | false => exact sb G Z' H' ks vs r' s Q Q3 st' (q.2 rfl) fun Z2 H2 d v2 r2 g2 => k Z2 H2 d v2 r2 (g.trans g2)
  | true => exact k Z' H' (.d (.bool true)) _ r' g st' (Dq.bl _) (q.1 rfl)
def xNotV (t : TE3) : TE3 := fun r Q => t r fun x r' => asB x fun b => Q (.d (.bool (!b))) r'
theorem r3_not (ha : R3 X a ta) : R3 X (.UnaryOp .Not a pos) (xNotV ta) := by
  obtain ⟨te, ea, sa⟩ := ha.ex
  refine ⟨_, pe_not ea, fun G Z H ks vs r s Q Q3 st ht k => sa G Z H ks vs r s _ _ st ht fun Z' H' x v r' g st' pv q => ?_⟩
  obtain ⟨c, rfl, q⟩ := asB_of q
  exact ⟨c, pv.bool, k Z' H' (.d (.bool (!c))) _ r' g st' (Dq.bl _) q⟩
def xNeg (t : TE3) : TE3 := fun r Q => t r fun x r' => asI x fun i => Q (.d (.int (-i))) r'
theorem r3_neg (ha : R3 X a ta) : R3 X (.UnaryOp .USub a pos) (xNeg ta) := by
  obtain ⟨te, ea, sa⟩ := ha.ex
  refine ⟨_, pe_un un_neg ea, fun G Z H ks vs r s Q Q3 st ht k => sa G Z H ks vs r s _ _ st ht fun Z' H' x v r' g st' pv q => ?_⟩
  obtain ⟨c, rfl, q⟩ := asI_of q
  exact ⟨c, pv.int, k Z' H' (.d (.int (-c))) _ r' g st' (Dq.int _) q⟩
end
end L3
namespace L3
open PySem PySem.Spec PyProof.Rows L2
/-! ### places -/
def getI {α : Type} (l : List α) (i : Int) : Option α := if 0 ≤ i then l[i.toNat]? else if -(l.length : Int) ≤ i then l[(i + l.length).toNat]? else none
theorem atI_eq {α : Type} (l : List α) (i : Int) : atI l i = getI l i := by
  unfold atI ixN getI
  by_cases h0 : 0 ≤ i
  · rw [if_pos h0, if_pos h0]
    by_cases h1 : i < (l.length : Int)
    · rw [if_pos h1]; rfl
    · rw [if_neg h1, List.getElem?_eq_none (by omega)]; rfl
  · rw [if_neg h0, if_neg h0]
    by_cases h1 : -(l.length : Int) ≤ i
    · rw [if_pos h1, if_pos h1]; rfl
    · rw [if_neg h1, if_neg h1]; rfl
theorem getI_map {α β : Type} (f : α → β) (l : List α) (i : Int) : getI (l.map f) i = (getI l i).map f := by
  unfold getI
  rw [List.length_map]
  split
  · rw [List.getElem?_map]
  · split
    · rw [List.getElem?_map]
    · rfl
theorem getI_set {α : Type} (l : List α) (i : Int) : ∀ x, getI l i = some x → ∃ j, ixN l.length i = some j ∧ l[j]? = some x := by
  intro x h
  have h' : atI l i = some x := by rw [atI_eq]; exact h
  unfold atI at h'
  cases e : ixN l.length i with
  | none => rw [e] at h'; cases h'
  | some j => rw [e] at h'; exact ⟨j, rfl, h'⟩
section
variable {K : PySem.W.Frag} {Z H : Hp}
theorem rts_len : ∀ {l : List T} {vs : List V}, RTs K Z H l vs → l.length = vs.length
  | _, _, .nil => rfl
  | _, _, .cons _ q => by simp [rts_len q]
theorem rts_get : ∀ {l : List T} {vs : List V} {i : Nat} {t : T}, RTs K Z H l vs → l[i]? = some t → ∃ v, vs[i]? = some v ∧ RT K Z H t v
  | _, _, i, _, .nil, h => by simp at h
  | _, _, 0, t, .cons q _, h => by
    simp at h; subst h; exact ⟨_, rfl, q⟩
  | _, _, i + 1, t, .cons _ q, h => by
    obtain ⟨v, e, r⟩ := rts_get (i := i) (t := t) q (by simpa using h)
    exact ⟨v, by simpa using e, r⟩
theorem rts_at {l : List T} {vs : List V} {i : Int} {t : T} (q : RTs K Z H l vs) (h : getI l i = some t) : ∃ v, atI vs i = some v ∧ RT K Z H t v := by
  obtain ⟨j, e, g⟩ := getI_set l i t h
  obtain ⟨v, e2, r⟩ := rts_get q g
  refine ⟨v, ?_, r⟩
  unfold atI
  rw [← rts_len q, e]
  exact e2
theorem dpa_len : ∀ {l : List PyData} {vs : List V}, DqAll K Z vs l → l.length = vs.length
  | _, _, .nil => rfl
  | _, _, .cons _ q => by simp [dpa_len q]
theorem dpa_get : ∀ {l : List PyData} {vs : List V} {i : Nat} {t : PyData}, DqAll K Z vs l → l[i]? = some t → ∃ v, vs[i]? = some v ∧ Dq K Z v t
  | _, _, i, _, .nil, h => by simp at h
  | _, _, 0, t, .cons q _, h => by
    simp at h; subst h; exact ⟨_, rfl, q⟩
  | _, _, i + 1, t, .cons _ q, h => by
    obtain ⟨v, e, r⟩ := dpa_get (i := i) (t := t) q (by simpa using h)
    exact ⟨v, by simpa using e, r⟩
theorem dpa_at {l : List PyData} {vs : List V} {i : Int} {t : PyData} (q : DqAll K Z vs l) (h : getI l i = some t) : ∃ v, atI vs i = some v ∧ Dq K Z v t := by
  obtain ⟨j, e, g⟩ := getI_set l i t h
  obtain ⟨v, e2, r⟩ := dpa_get q g
  refine ⟨v, ?_, r⟩
  unfold atI
  rw [← dpa_len q, e]
  exact e2
theorem dpa_drop : ∀ {l : List PyData} {vs : List V} (n : Nat), DqAll K Z vs l → DqAll K Z (vs.drop n) (l.drop n)
  | _, _, 0, q => q
  | _, _, n + 1, .nil => .nil
  | _, _, n + 1, .cons _ q => dpa_drop n q
theorem dpa_take : ∀ {l : List PyData} {vs : List V} (n : Nat), DqAll K Z vs l → DqAll K Z (vs.take n) (l.take n)
  | _, _, 0, q => .nil
  | _, _, n + 1, .nil => .nil
  | _, _, n + 1, .cons h q => .cons h (dpa_take n q)
theorem dpa_app : ∀ {l m : List PyData} {vs ws : List V}, DqAll K Z vs l → DqAll K Z ws m → DqAll K Z (vs ++ ws) (l ++ m)
  | _, _, _, _, .nil, q => q
  | _, _, _, _, .cons h k, q => .cons h (dpa_app k q)
theorem dqa_ints : ∀ (ns : List Int), DqAll K Z (ns.map V.int) (ns.map PyData.int)
  | [] => .nil
  | n :: ns => .cons (.int n) (dqa_ints ns)
theorem rts_app : ∀ {l m : List T} {vs ws : List V}, RTs K Z H l vs → RTs K Z H m ws → RTs K Z H (l ++ m) (vs ++ ws)
  | _, _, _, _, .nil, q => q
  | _, _, _, _, .cons h k, q => .cons h (rts_app k q)
end
/-- all items data -/
def alld : List T → Bool
  | [] => true
  | .d _ :: l => alld l
  | _ :: _ => false
theorem alld_eq : ∀ {l : List T}, alld l = true → l = (fzs l).map T.d
  | [], _ => rfl
  | .d x :: l, h => by simp only [fzs, fz, List.map_cons, ← alld_eq (l := l) h]
  | .v _ :: _, h => by simp [alld] at h
  | .sc _ _ :: _, h => by simp [alld] at h
  | .own _ _ :: _, h => by simp [alld] at h
  | .tp _ :: _, h => by simp [alld] at h
theorem fzs_d : ∀ (l : List PyData), fzs (l.map T.d) = l
  | [] => rfl
  | x :: l => by simp only [List.map_cons, fzs, fz, fzs_d l]
theorem alld_d : ∀ (l : List PyData), alld (l.map T.d) = true
  | [] => rfl
  | x :: l => by simp only [List.map_cons, alld, alld_d l]
theorem fzs_map {α : Type} (f : α → PyData) (l : List α) : fzs (l.map fun x => T.d (f x)) = l.map f := by
  have := fzs_d (l.map f)
  rw [List.map_map] at this
  exact this
theorem alld_map {α : Type} (f : α → PyData) (l : List α) : alld (l.map fun x => T.d (f x)) = true := by
  have := alld_d (l.map f)
  rw [List.map_map] at this
  exact this
theorem fzs_append : ∀ (l m : List T), fzs (l ++ m) = fzs l ++ fzs m
  | [], _ => rfl
  | t :: l, m => by simp only [List.cons_append, fzs, fzs_append l m]
theorem nvs_d : ∀ (l : List PyData), nvs (l.map T.d) = true
  | [] => rfl
  | x :: l => by simp only [List.map_cons, nvs, nv, nvs_d l, Bool.and_self]
theorem nvs_map {α : Type} (f : α → PyData) (l : List α) : nvs (l.map fun x => T.d (f x)) = true := by
  have := nvs_d (l.map f)
  rw [List.map_map] at this
  exact this
theorem cts_d (a : Addr) : ∀ (l : List PyData), cts a (l.map T.d) = 0
  | [] => rfl
  | x :: l => by simp only [List.map_cons, cts, ct, cts_d a l]
theorem rts_of_dpa {K : PySem.W.Frag} {Z H : Hp} : ∀ {l : List PyData} {vs : List V}, DqAll K Z vs l → RTs K Z H (l.map T.d) vs
  | _, _, .nil => .nil
  | _, _, .cons h q => .cons (.d h) (rts_of_dpa q)
theorem dpa_of_rts {K : PySem.W.Frag} {Z H : Hp} : ∀ {l : List PyData} {vs : List V}, RTs K Z H (l.map T.d) vs → DqAll K Z vs l
  | [], _, .nil => .nil
  | _ :: _, _, .cons h q => by
    cases h with
    | d h => exact .cons h (dpa_of_rts q)
section
variable {X : Cx} {e a b c : Expr} {t ta tb tc : TE3} {pos : Pos}
/-! ### a[i] -/
def cItem (t : T) (r : Rho) (Q : T → Rho → Prop) : Prop := match t with | .d z => Q (.d z) r | .own b m => Q (.own b m) r | .sc b ns => Q (.sc b ns) r | _ => False
def cIx : C2 := fun r1 x y r Q => asI y fun i => match x with
  | .d (.list l) => ∃ z, getI l i = some z ∧ Q (.d z) r
  | .d (.tuple l) => ∃ z, getI l i = some z ∧ Q (.d z) r
  | .d (.str z) => z.length ≤ sizeLine ∧ ∃ c, getI z.cps.toList i = some c ∧ Q (.d (.str ⟨#[c]⟩)) r
  | .sc _ ns => ∃ z, getI ns i = some z ∧ Q (.d (.int z)) r
  | .own _ l => r = r1 ∧ ∃ t, getI l i = some t ∧ cItem t r Q
  | .tp l => r = r1 ∧ ∃ t, getI l i = some t ∧ cItem t r Q
  | _ => False
theorem con_ix : Con2 X (rIx X.K) cIx := fun G Z H ks vs r1 r s x y tx ty Q Q3 st px py hc0 k => by
  obtain ⟨i, rfl, hc⟩ := asI_of hc0
  clear hc0
  cases py.int
  have seqD : ∀ {l : List PyData} {z : PyData} {xs : List V}, DqAll X.K Z xs l → getI l i = some z → Q3 (.d z) r → ∃ v, atI xs i = some v ∧ Q v H := fun {l z xs} hd hg q => by
    obtain ⟨v, e, dz⟩ := dpa_at hd hg
    exact ⟨v, e, k Z H (.d z) v r (Gr.refl _ _) st dz q⟩
  cases tx with
  | ob _ _ _ _ _ _ => exact hc.elim
  | hx _ _ _ => exact hc.elim
  | v x => exact hc.elim
  | sc a ns =>
    obtain ⟨rfl, hs⟩ := px.scr a ns rfl
    obtain ⟨z, hg, hc⟩ := hc
    exact .inl ⟨_, _, i, .int z, rfl, rfl, st.zh.L hs, by rw [atI_eq, getI_map, hg]; rfl, k Z H (.d (.int z)) _ r (Gr.refl _ _) st (Dq.int _) hc⟩
  | d d =>
    have dx := px.dat d rfl
    cases dx with
    | lst hs ha =>
      obtain ⟨z, hg, hc⟩ := hc
      obtain ⟨v, e, q⟩ := seqD ha hg hc
      exact .inl ⟨_, _, i, v, rfl, rfl, SqL.of (st.zh _ _ hs), e, q⟩
    | tup hs ha =>
      obtain ⟨z, hg, hc⟩ := hc
      obtain ⟨v, e, q⟩ := seqD ha hg hc
      exact .inr (.inl ⟨_, _, i, v, rfl, rfl, SqT.of (st.zh _ _ hs), e, q⟩)
    | str z =>
      obtain ⟨hz, c, hg, hc⟩ := hc
      exact .inr (.inr ⟨z, i, c, rfl, rfl, hz, by rw [atI_eq]; exact hg, k Z H (.d (.str ⟨#[c]⟩)) _ r (Gr.refl _ _) st (Dq.str _) hc⟩)
    | exc _ _ => exact hc.elim
    | non => exact hc.elim
    | bl _ => exact hc.elim
    | int _ => exact hc.elim
  | own a0 l =>
    obtain ⟨e1, t, hg, hc⟩ := hc
    have pp := px.same e1
    have rt := pp.now st
    cases rt with
    | own h1 h2 =>
      obtain ⟨v, e, rz⟩ := rts_at h2 hg
      unfold cItem at hc
      split at hc
      · rename_i z
        cases rz with
        | d dz => exact .inl ⟨_, _, i, v, rfl, rfl, SqL.of h1, e, k Z H (.d z) v r (Gr.refl _ _) st dz hc⟩
      · rename_i b m
        cases rz with
        | own g1 g2 =>
          refine .inl ⟨_, _, i, _, rfl, rfl, SqL.of h1, e, k Z H (.own b m) _ r (Gr.refl _ _) st ?_ hc⟩
          intro G2 Z2 H2 ks2 vs2 sub st2
          have rt2 := pp G2 Z2 H2 ks2 vs2 sub st2
          cases rt2 with
          | own k1 k2 =>
            obtain ⟨v2, _, rz2⟩ := rts_at k2 hg
            cases rz2 with
            | own m1 m2 => exact .own m1 m2
      · cases rz with
        | sc hs => exact .inl ⟨_, _, i, _, rfl, rfl, SqL.of h1, e, k Z H (.sc _ _) _ r (Gr.refl _ _) st ⟨rfl, hs⟩ hc⟩
      · exact hc.elim
  | tp l =>
    obtain ⟨e1, t, hg, hc⟩ := hc
    have pp := px.same e1
    have rt := pp.now st
    cases rt with
    | tp h1 h2 =>
      obtain ⟨v, e, rz⟩ := rts_at h2 hg
      unfold cItem at hc
      split at hc
      · rename_i z
        cases rz with
        | d dz => exact .inr (.inl ⟨_, _, i, v, rfl, rfl, SqT.of (st.zh _ _ h1), e, k Z H (.d z) v r (Gr.refl _ _) st dz hc⟩)
      · rename_i b m
        cases rz with
        | own g1 g2 =>
          refine .inr (.inl ⟨_, _, i, _, rfl, rfl, SqT.of (st.zh _ _ h1), e, k Z H (.own b m) _ r (Gr.refl _ _) st ?_ hc⟩)
          intro G2 Z2 H2 ks2 vs2 sub st2
          have rt2 := pp G2 Z2 H2 ks2 vs2 sub st2
          cases rt2 with
          | tp k1 k2 =>
            obtain ⟨v2, _, rz2⟩ := rts_at k2 hg
            cases rz2 with
            | own m1 m2 => exact .own m1 m2
      · cases rz with
        | sc hs => exact .inr (.inl ⟨_, _, i, _, rfl, rfl, SqT.of (st.zh _ _ h1), e, k Z H (.sc _ _) _ r (Gr.refl _ _) st ⟨rfl, hs⟩ hc⟩)
      · exact hc.elim
theorem r3_ix (ha : R3 X a ta) (hb : R3 X b tb) (hs : PlainIx b := by intro _ _; rfl) : R3 X (.Subscript a b pos) (x2 cIx ta tb) := by
  obtain ⟨tea, ea, sa⟩ := ha.ex
  obtain ⟨teb, eb, sb⟩ := hb.ex
  exact ⟨_, pe_ix ix_seq ea eb hs, two_run con_ix sa sb⟩
/-! ### a[lo:hi] -/
def cutL {α : Type} (xs : List α) (lo hi : Option Int) : List α := (xs.drop (HT.sIx xs.length 0 lo)).take (HT.sIx xs.length xs.length hi - HT.sIx xs.length 0 lo)
theorem cutL_map {α β : Type} (f : α → β) (xs : List α) (lo hi : Option Int) : cutL (xs.map f) lo hi = (cutL xs lo hi).map f := by
  unfold cutL
  rw [List.length_map, List.map_take, List.map_drop]
abbrev TO3 := Rho → (Option Int → Rho → Prop) → Prop
structure PO3 (X : Cx) (e : Option Expr) (t : TO3) : Prop where
  ex : ∃ te : TO, PO X e te ∧ ∀ (G Z H : Hp) (ks : List T) (vs : List V) (r : Rho) (s : L2.St) (Q : Option Int → Hp → Prop) (Q3 : Option Int → Rho → Prop), S3 X.K G Z H ks vs r s → t r Q3 →
    (∀ Z' H' x r', Gr G Z Z' → S3 X.K G Z' H' ks vs r' s → Q3 x r' → Q x H') → te s H Q
def xNo : TO3 := fun r Q => Q none r
def xSome (t : TE3) : TO3 := fun r Q => t r fun x r' => asI x fun i => Q (some i) r'
theorem po3_none : PO3 X none xNo := ⟨_, po_none, fun G Z H ks vs r s Q Q3 st ht k => k Z H none r (Gr.refl _ _) st ht⟩
theorem po3_some (h : R3 X e t) : PO3 X (some e) (xSome t) := by
  obtain ⟨te, ea, sa⟩ := h.ex
  refine ⟨_, po_some ea, fun G Z H ks vs r s Q Q3 st ht k => sa G Z H ks vs r s _ _ st ht fun Z' H' x v r' g st' pv q => ?_⟩
  obtain ⟨i, rfl, q⟩ := asI_of q
  exact ⟨i, pv.int, k Z' H' (some i) r' g st' q⟩
def xSl (te : TE3) (tl th : TO3) : TE3 := fun r Q => te r fun x r1 => tl r1 fun lo r2 => th r2 fun hi r3 => match x with
  | .d (.list l) => ∀ p, Q (.own p ((cutL l lo hi).map T.d)) r3
  | .sc _ ns => ∀ p, Q (.own p ((cutL ns lo hi).map fun n => T.d (.int n))) r3
  | .own _ l => r3 = r1 ∧ alld l = true ∧ ∀ p, Q (.own p ((cutL (fzs l) lo hi).map T.d)) r3
  | .d (.tuple l) => Q (.d (.tuple (cutL l lo hi))) r3
  | .d (.str z) => z.length ≤ sizeLine ∧ Q (.d (.str (cutS z lo hi))) r3
  | _ => False
theorem p3_sl {lo hi : Option Expr} {tl th : TO3} {p2 : Pos} (ha : R3 X a ta) (hl : PO3 X lo tl) (hh : PO3 X hi th) : P3 X (.Subscript a (.Slice lo hi none p2) pos) (xSl ta tl th) := by
  obtain ⟨tea, ea, sa⟩ := ha.ex
  obtain ⟨tel, el, sl⟩ := hl.ex
  obtain ⟨teh, eh, sh⟩ := hh.ex
  refine ⟨_, pe_slice (sl_list.or (sl_tupA.or sl_str)) ea el eh, fun G Z H ks vs r s Q Q3 st ht k => sa G Z H ks vs r s _ _ st ht fun Z1 H1 x v r1 g1 st1 pv q => sl G Z1 H1 ks vs r1 s _ _ st1 q fun Z2 H2 lo r2 g2 st2 q => sh G Z2 H2 ks vs r2 s _ _ st2 q fun Z3 H3 hi r3 g3 st3 q => ?_⟩
  have pp : Pv2 X.K Z3 r1 r3 s x v := pv.two (g2.trans g3).sub
  have gg := (g1.trans g2).trans g3
  have newL : ∀ {xs : List V} {l : List PyData}, DqAll X.K Z3 xs l → (∀ p, Q3 (.own p ((cutL l lo hi).map T.d)) r3) → ∀ p, H3 p = none → Q (.ref p) (upd H3 p (.lst (cutV xs lo hi))) := fun {xs l} hd hq p hp => by
    have hd2 : DqAll X.K Z3 (cutV xs lo hi) (cutL l lo hi) := by
      unfold cutV cutL
      rw [dpa_len hd]
      exact dpa_take _ (dpa_drop _ hd)
    have st4 : S3 X.K G Z3 H3 ((cutL l lo hi).map T.d ++ ks) (cutV xs lo hi ++ vs) r3 s := ⟨st3.zh, st3.gh, fun a => by rw [cts_append, cts_d]; have := st3.one a; omega, fun a c => st3.ow a (by rw [cts_append, cts_d] at c; omega), rts_app (rts_of_dpa hd2) st3.stk, st3.slot, st3.len⟩
    exact k _ _ _ _ r3 gg (st4.mkOwn (by rw [List.length_map]; exact dpa_len hd2) hp) (hq p)
  cases x with
  | v x => exact q.elim
  | tp l => exact q.elim
  | ob _ _ _ _ _ _ => exact q.elim
  | hx _ _ _ => exact q.elim
  | sc a ns =>
    obtain ⟨rfl, hs⟩ := pp.scr a ns rfl
    have q' : ∀ p, Q3 (.own p ((cutL (ns.map PyData.int) lo hi).map T.d)) r3 := fun p => by
      rw [cutL_map, List.map_map]
      exact q p
    exact .inl ⟨_, _, rfl, st3.zh.L hs, newL (dqa_ints ns) q'⟩
  | own a0 l =>
    obtain ⟨e1, al, q⟩ := q
    have rt := (pp.same e1).now st3
    cases rt with
    | own h1 h2 =>
      rw [alld_eq al] at h2
      exact .inl ⟨_, _, rfl, SqL.of h1, newL (dpa_of_rts h2) q⟩
  | d d =>
    have dx := pp.dat d rfl
    cases dx with
    | lst hs ha => exact .inl ⟨_, _, rfl, SqL.of (st3.zh _ _ hs), newL ha q⟩
    | @tup a0 xs l hs ha =>
      have hd2 : DqAll X.K Z3 (cutV xs lo hi) (cutL l lo hi) := by
        unfold cutV cutL
        rw [dpa_len ha]
        exact dpa_take _ (dpa_drop _ ha)
      refine .inr (.inl ⟨a0, xs, rfl, SqT.of (st3.zh _ _ hs), fun w => ?_, fun w p hp => ?_⟩)
      · have e2 : cutL l lo hi = l := by
          unfold cutL
          rw [dpa_len ha, w.1, w.2, List.drop_zero, Nat.sub_zero, ← dpa_len ha, List.take_length]
        simp only [e2] at q
        exact k Z3 H3 _ _ r3 gg (st3.pushD (.tup hs ha)) q
      · obtain ⟨g4, st4⟩ := st3.laidG (o := .tup (cutV xs lo hi)) hp
        exact k _ _ _ _ r3 (gg.trans g4) (st4.pushD (.tup upd_same (dpa_mono g4.sub _ _ hd2))) q
    | str z => exact .inr (.inr ⟨z, rfl, q.1, k Z3 H3 (.d (.str _)) _ r3 gg (st3.pushD (.str _)) q.2⟩)
    | exc _ _ => exact q.elim
    | non => exact q.elim
    | bl _ => exact q.elim
    | int _ => exact q.elim
/-! ### displays -/
abbrev TA3 := Rho → (List T → Rho → Prop) → Prop
structure PA3 (X : Cx) (es : List Expr) (t : TA3) : Prop where
  ex : ∃ te : TA, PA X es te ∧ ∀ (G Z H : Hp) (ks : List T) (vs : List V) (r : Rho) (s : L2.St) (Q : List V → Hp → Prop) (Q3 : List T → Rho → Prop), S3 X.K G Z H ks vs r s → t r Q3 →
    (∀ Z' H' xs us r', Gr G Z Z' → xs.length = us.length → S3 X.K G Z' H' (xs ++ ks) (us ++ vs) r' s → Q3 xs r' → Q us H') → te s H Q
theorem S3.mid {K : PySem.W.Frag} {G Z H : Hp} {r : Rho} {s : L2.St} {t : T} {v : V} {ks : List T} {vs : List V} : ∀ {l : List T} {xs : List V}, l.length = xs.length → S3 K G Z H (l ++ t :: ks) (xs ++ v :: vs) r s → S3 K G Z H (t :: (l ++ ks)) (v :: (xs ++ vs)) r s := by
  intro l xs hl h
  have hm : ∀ (l : List T) (xs : List V), l.length = xs.length → RTs K Z H (l ++ t :: ks) (xs ++ v :: vs) → RTs K Z H (t :: (l ++ ks)) (v :: (xs ++ vs)) := by
    intro l
    induction l with
    | nil => intro xs hl q; cases xs with | nil => exact q | cons _ _ => simp at hl
    | cons y l ih =>
      intro xs hl q
      cases xs with
      | nil => simp at hl
      | cons x xs =>
        cases q with
        | cons q1 q2 =>
          have := ih xs (by simpa using hl) q2
          cases this with
          | cons z1 z2 => exact .cons z1 (.cons q1 z2)
  have hc : ∀ a, cts a (l ++ t :: ks) = cts a (t :: (l ++ ks)) := fun a => by
    rw [cts_append]
    simp only [cts]
    rw [cts_append]
    omega
  exact ⟨h.zh, h.gh, fun a => by rw [← hc a]; exact h.one a, fun a c => h.ow a (by rw [hc a]; exact c), hm l xs hl h.stk, h.slot, h.len⟩
theorem S3.mid' {K : PySem.W.Frag} {G Z H : Hp} {r : Rho} {s : L2.St} {t : T} {v : V} {ks : List T} {vs : List V} : ∀ {l : List T} {xs : List V}, l.length = xs.length → S3 K G Z H (t :: (l ++ ks)) (v :: (xs ++ vs)) r s → S3 K G Z H (l ++ t :: ks) (xs ++ v :: vs) r s := by
  intro l xs hl h
  have hm : ∀ (l : List T) (xs : List V), l.length = xs.length → RTs K Z H (t :: (l ++ ks)) (v :: (xs ++ vs)) → RTs K Z H (l ++ t :: ks) (xs ++ v :: vs) := by
    intro l
    induction l with
    | nil => intro xs hl q; cases xs with | nil => exact q | cons _ _ => simp at hl
    | cons y l ih =>
      intro xs hl q
      cases xs with
      | nil => simp at hl
      | cons x xs =>
        cases q with
        | cons q1 q2 =>
          cases q2 with
          | cons q3 q4 => exact .cons q3 (ih xs (by simpa using hl) (.cons q1 q4))
  have hc : ∀ a, cts a (l ++ t :: ks) = cts a (t :: (l ++ ks)) := fun a => by
    rw [cts_append]
    simp only [cts]
    rw [cts_append]
    omega
  exact ⟨h.zh, h.gh, fun a => by rw [hc a]; exact h.one a, fun a c => h.ow a (by rw [← hc a]; exact c), hm l xs hl h.stk, h.slot, h.len⟩
def xNil : TA3 := fun r Q => Q [] r
def xCons (t : TE3) (u : TA3) : TA3 := fun r Q => t r fun x r1 => u r1 fun xs r2 => Q (x :: xs) r2
theorem pa3_nil : PA3 X [] xNil := ⟨_, pa_nil, fun G Z H ks vs r s Q Q3 st ht k => k Z H [] [] r (Gr.refl _ _) rfl st ht⟩
theorem pa3_cons {es : List Expr} {u : TA3} (ha : P3 X e t) (hr : PA3 X es u) (hs : starEach (e :: es) X.env = (false, eval e X.env) :: starEach es X.env := by rfl) : PA3 X (e :: es) (xCons t u) := by
  obtain ⟨tea, ea, sa⟩ := ha.ex
  obtain ⟨ter, er, sr⟩ := hr.ex
  refine ⟨_, pa_cons ea er hs, fun G Z H ks vs r s Q Q3 st ht k => sa G Z H ks vs r s _ _ st ht fun Z1 H1 x v r1 g1 st1 q1 => sr G Z1 H1 (x :: ks) (v :: vs) r1 s _ _ st1 q1 fun Z2 H2 xs us r2 g2 hl st2 q2 => ?_⟩
  exact k Z2 H2 (x :: xs) (v :: us) r2 (g1.trans g2) (by simp [hl]) (st2.mid hl) q2
def xLst (t : TA3) : TE3 := fun r Q => t r fun xs r' => xs.length ≤ sizeLine ∧ ∀ p, Q (.own p xs) r'
theorem p3_lst {es : List Expr} {u : TA3} (h : PA3 X es u) : P3 X (.List es pos) (xLst u) := by
  obtain ⟨te, ea, sa⟩ := h.ex
  refine ⟨_, pe_lst ea, fun G Z H ks vs r s Q Q3 st ht k => sa G Z H ks vs r s _ _ st ht fun Z1 H1 xs us r1 g1 hl st1 q => ⟨by rw [← hl]; exact q.1, fun p hp => ?_⟩⟩
  exact k _ _ _ _ r1 g1 (st1.mkOwn hl hp) (q.2 p)
/-- a tuple of what was told: data, where all of it is -/
def mkTup (l : List T) : T := if alld l = true then .d (.tuple (fzs l)) else .tp l
theorem S3.mkTup {K : PySem.W.Frag} {G Z H : Hp} {ks : List T} {vs : List V} {r : Rho} {s : L2.St} {l : List T} {xs : List V} {p : Addr} (h : S3 K G Z H (l ++ ks) (xs ++ vs) r s) (hl : l.length = xs.length) (hp : H p = none) :
    Gr G Z (upd Z p (.tup xs)) ∧ S3 K G (upd Z p (.tup xs)) (upd H p (.tup xs)) (mkTup l :: ks) (.ref p :: vs) r s := by
  obtain ⟨g, h1⟩ := h.laidG (o := .tup xs) hp
  refine ⟨g, ?_⟩
  have splt : ∀ (l : List T) (xs : List V), l.length = xs.length → ∀ (Z H : Hp), RTs K Z H (l ++ ks) (xs ++ vs) → RTs K Z H l xs ∧ RTs K Z H ks vs := by
    intro l
    induction l with
    | nil => intro xs hl Z H q; cases xs with | nil => exact ⟨.nil, q⟩ | cons _ _ => simp at hl
    | cons t l ih =>
      intro xs hl Z H q
      cases xs with
      | nil => simp at hl
      | cons x xs =>
        cases q with
        | cons q1 q2 =>
          obtain ⟨z1, z2⟩ := ih xs (by simpa using hl) Z H q2
          exact ⟨.cons q1 z1, z2⟩
  obtain ⟨q1, q2⟩ := splt l xs hl _ _ h1.stk
  have tsq : (upd Z p (.tup xs)) p = some (.tup xs) := upd_same
  unfold L3.mkTup
  split
  · rename_i al
    rw [alld_eq al] at q1
    refine ⟨h1.zh, h1.gh, fun a => ?_, fun a c => h1.ow a ?_, .cons (.d (.tup tsq (dpa_of_rts q1))) q2, h1.slot, h1.len⟩
    · have := h1.one a
      rw [cts_append] at this
      simp only [cts, ct]
      omega
    · rw [cts_append]
      simp only [cts, ct] at c
      omega
  · refine ⟨h1.zh, h1.gh, fun a => ?_, fun a c => h1.ow a ?_, .cons (.tp tsq q1) q2, h1.slot, h1.len⟩
    · have := h1.one a
      rw [cts_append] at this
      simp only [cts, ct]
      omega
    · rw [cts_append]
      simp only [cts, ct] at c
      omega
def xTup (t : TA3) : TE3 := fun r Q => t r fun xs r' => xs.length ≤ sizeLine ∧ Q (mkTup xs) r'
theorem p3_tup {es : List Expr} {u : TA3} {x1} (h : PA3 X es u) : P3 X (.Tuple es x1 pos) (xTup u) := by
  obtain ⟨te, ea, sa⟩ := h.ex
  refine ⟨_, pe_tup ea, fun G Z H ks vs r s Q Q3 st ht k => sa G Z H ks vs r s _ _ st ht fun Z1 H1 xs us r1 g1 hl st1 q => ⟨by rw [← hl]; exact q.1, fun p hp => ?_⟩⟩
  obtain ⟨g2, st2⟩ := st1.mkTup hl hp
  exact k _ _ _ _ r1 (g1.trans g2) st2 q.2
end
end L3
namespace L3
open PySem PySem.Spec PyProof.Rows L2
section
variable {K : PySem.W.Frag} {G Z H : Hp} {ks : List T} {vs : List V} {r : Rho} {s : L2.St}
/-- a new list of data -/
theorem S3.newD {l : List PyData} {xs : List V} {p : Addr} (h : S3 K G Z H ks vs r s) (hd : DqAll K Z xs l) (hp : H p = none) : S3 K G Z (upd H p (.lst xs)) (.own p (l.map T.d) :: ks) (.ref p :: vs) r s := by
  have st4 : S3 K G Z H (l.map T.d ++ ks) (xs ++ vs) r s := ⟨h.zh, h.gh, fun a => by rw [cts_append, cts_d]; have := h.one a; omega, fun a c => h.ow a (by rw [cts_append, cts_d] at c; omega), rts_app (rts_of_dpa hd) h.stk, h.slot, h.len⟩
  exact st4.mkOwn (by rw [List.length_map]; exact dpa_len hd) hp
theorem dqa_inv : ∀ {ns : List Int} {xs : List V}, DqAll K Z xs (ns.map PyData.int) → xs = ns.map V.int
  | [], _, .nil => rfl
  | n :: ns, _, .cons h q => by
    cases h
    rw [dqa_inv q]
    rfl
end
def allI : List PyData → Bool
  | [] => true
  | .int _ :: l => allI l
  | _ :: _ => false
def intL : List PyData → List Int
  | [] => []
  | .int i :: l => i :: intL l
  | _ :: l => intL l
theorem allI_eq : ∀ {l : List PyData}, allI l = true → l = (intL l).map PyData.int
  | [], _ => rfl
  | .int i :: l, h => by simp only [intL, List.map_cons, ← allI_eq (l := l) h]
  | .none :: _, h => by simp [allI] at h
  | .bool _ :: _, h => by simp [allI] at h
  | .str _ :: _, h => by simp [allI] at h
  | .list _ :: _, h => by simp [allI] at h
  | .tuple _ :: _, h => by simp [allI] at h
  | .dict _ :: _, h => by simp [allI] at h
theorem allI_map : ∀ (ns : List Int), allI (ns.map PyData.int) = true
  | [] => rfl
  | n :: ns => by simp only [List.map_cons, allI, allI_map ns]
def maxL : List Int → Int
  | [] => 0
  | x :: l => l.foldl max x
theorem maxF (l : List Int) : ∀ x : Int, x ≤ l.foldl max x ∧ (∀ y ∈ l, y ≤ l.foldl max x) ∧ (l.foldl max x = x ∨ l.foldl max x ∈ l) := by
  induction l with
  | nil => intro x; exact ⟨Int.le_refl _, by simp, .inl rfl⟩
  | cons z l ih =>
    intro x
    obtain ⟨h1, h2, h3⟩ := ih (max x z)
    refine ⟨Int.le_trans (Int.le_max_left _ _) h1, fun y hy => ?_, ?_⟩
    · rcases List.mem_cons.mp hy with e | hy
      · rw [e]; exact Int.le_trans (Int.le_max_right _ _) h1
      · exact h2 y hy
    · rcases h3 with e | h3
      · have : (z :: l).foldl max x = max x z := e
        rw [this]
        rcases Int.le_total x z with q | q
        · rw [Int.max_eq_right q]; exact .inr (List.mem_cons_self ..)
        · rw [Int.max_eq_left q]; exact .inl rfl
      · exact .inr (List.mem_cons_of_mem _ h3)
theorem maxL_mem {l : List Int} (h : l ≠ []) : maxL l ∈ l := by
  cases l with
  | nil => exact absurd rfl h
  | cons x l =>
    rcases (maxF l x).2.2 with e | e
    · show l.foldl max x ∈ _
      rw [e]; exact List.mem_cons_self ..
    · exact List.mem_cons_of_mem _ e
theorem maxL_ge {l : List Int} {y : Int} (h : y ∈ l) : y ≤ maxL l := by
  cases l with
  | nil => simp at h
  | cons x l =>
    rcases List.mem_cons.mp h with e | e
    · rw [e]; exact (maxF l x).1
    · exact (maxF l x).2.1 y e
section
variable {X : Cx} {e a b c : Expr} {t ta tb tc : TE3} {pos : Pos}
/-! ### a + b of any kind -/
def cAdd : C2 := fun r1 x y r Q => match x, y with
  | .d (.int i), .d (.int j) => Q (.d (.int (i + j))) r
  | .d (.str i), .d (.str j) => i.length + j.length ≤ sizeLine ∧ Q (.d (.str (i ++ j))) r
  | .d (.tuple l), .d (.tuple m) => l.length + m.length ≤ sizeLine ∧ Q (.d (.tuple (l ++ m))) r
  | .own _ l, .own _ m => r = r1 ∧ alld l = true ∧ alld m = true ∧ l.length + m.length ≤ sizeLine ∧ ∀ p, Q (.own p (l ++ m)) r
  | .own _ l, .d (.list m) => r = r1 ∧ alld l = true ∧ l.length + m.length ≤ sizeLine ∧ ∀ p, Q (.own p (l ++ m.map T.d)) r
  | .d (.list l), .own _ m => alld m = true ∧ l.length + m.length ≤ sizeLine ∧ ∀ p, Q (.own p (l.map T.d ++ m)) r
  | .d (.list l), .d (.list m) => l.length + m.length ≤ sizeLine ∧ ∀ p, Q (.own p (l.map T.d ++ m.map T.d)) r
  | _, _ => False
/-- a list's items as data -/
theorem own_data {K : PySem.W.Frag} {Z H : Hp} {p : Addr} {l : List T} {v : V} (h : RT K Z H (.own p l) v) (al : alld l = true) : ∃ xs, v = .ref p ∧ H p = some (.lst xs) ∧ DqAll K Z xs (fzs l) ∧ xs.length = l.length := by
  cases h with
  | own h1 h2 =>
    have e := rts_len h2
    rw [alld_eq al] at h2
    exact ⟨_, rfl, h1, dpa_of_rts h2, e.symm⟩
theorem con_add : Con2P X (fun x y H Q => (rI0 fun i j => .int (i + j)) x y H Q ∨ (∃ i j, x = .str i ∧ y = .str j ∧ i.length + j.length ≤ sizeLine ∧ Q (.str (i ++ j)) H) ∨ rCatA X.K x y H Q ∨ rCat x y H Q) cAdd :=
  fun G Z H ks vs r1 r s x y tx ty Q Q3 st px py hc k => by
    have cat : ∀ {a b : Addr} {xs zs : List V} {l m : List PyData}, H a = some (.lst xs) → H b = some (.lst zs) → DqAll X.K Z xs l → DqAll X.K Z zs m → xs.length + zs.length ≤ sizeLine → (∀ p, Q3 (.own p (l.map T.d ++ m.map T.d)) r) → rCat (.ref a) (.ref b) H Q :=
      fun {a b xs zs l m} h1 h2 d1 d2 hz q => ⟨a, b, xs, zs, rfl, rfl, h1, h2, hz, fun p hp => by
        have := st.newD (dpa_app d1 d2) hp
        rw [List.map_append] at this
        exact k Z _ _ _ r (Gr.refl _ _) this (q p)⟩
    unfold cAdd at hc
    split at hc
    · rename_i i j
      cases px.dat _ rfl
      cases py.int
      exact .inl ⟨i, j, rfl, rfl, k Z H (.d (.int (i + j))) _ r (Gr.refl _ _) (st.pushD (.int _)) hc⟩
    · rename_i i j
      cases px.dat _ rfl
      cases py.str
      exact .inr (.inl ⟨i, j, rfl, rfl, hc.1, k Z H (.d (.str _)) _ r (Gr.refl _ _) (st.pushD (.str _)) hc.2⟩)
    · rename_i l m
      have dx := px.dat _ rfl
      have dy : Dq X.K Z y (.tuple m) := py
      cases dx with
      | @tup a1 xs _ hx ax =>
        cases dy with
        | @tup a2 ys _ hy ay =>
          refine .inr (.inr (.inl ⟨a1, a2, xs, ys, rfl, rfl, SqT.of (st.zh _ _ hx), SqT.of (st.zh _ _ hy), by rw [← dpa_len ax, ← dpa_len ay]; exact hc.1, fun e => ?_, fun _ e => ?_, fun _ _ p hp => ?_⟩))
          · subst e
            cases ax
            exact k Z H _ _ r (Gr.refl _ _) (st.pushD (.tup hy ay)) hc.2
          · subst e
            cases ay
            refine k Z H _ _ r (Gr.refl _ _) (st.pushD (.tup hx ax)) ?_
            have h2 := hc.2
            rw [List.append_nil] at h2
            exact h2
          · obtain ⟨g4, st4⟩ := st.laidG (o := .tup (xs ++ ys)) hp
            exact k _ _ _ _ r g4 (st4.pushD (.tup upd_same (dpa_mono g4.sub _ _ (dpa_app ax ay)))) hc.2
    · rename_i a1 l a2 m
      obtain ⟨xs, rfl, h1, d1, e1⟩ := own_data ((px.same hc.1).now st) hc.2.1
      obtain ⟨zs, rfl, h2, d2, e2⟩ := own_data (py.now st) hc.2.2.1
      refine .inr (.inr (.inr (cat h1 h2 d1 d2 (by rw [e1, e2]; exact hc.2.2.2.1) ?_)))
      rw [← alld_eq hc.2.1, ← alld_eq hc.2.2.1]
      exact hc.2.2.2.2
    · rename_i a1 l m
      obtain ⟨xs, rfl, h1, d1, e1⟩ := own_data ((px.same hc.1).now st) hc.2.1
      cases (show Dq X.K Z y (.list m) from py) with
      | lst hs ha =>
        refine .inr (.inr (.inr (cat h1 (st.zh _ _ hs) d1 ha (by rw [e1, ← dpa_len ha]; exact hc.2.2.1) ?_)))
        rw [← alld_eq hc.2.1]
        exact hc.2.2.2
    · rename_i l a2 m
      obtain ⟨zs, rfl, h2, d2, e2⟩ := own_data (py.now st) hc.1
      cases px.dat _ rfl with
      | lst hs ha =>
        refine .inr (.inr (.inr (cat (st.zh _ _ hs) h2 ha d2 (by rw [e2, ← dpa_len ha]; exact hc.2.1) ?_)))
        rw [← alld_eq hc.1]
        exact hc.2.2
    · rename_i l m
      cases px.dat _ rfl with
      | lst hs ha =>
        cases (show Dq X.K Z y (.list m) from py) with
        | lst hs2 ha2 => exact .inr (.inr (.inr (cat (st.zh _ _ hs) (st.zh _ _ hs2) ha ha2 (by rw [← dpa_len ha, ← dpa_len ha2]; exact hc.1) hc.2)))
    · exact hc.elim
theorem p3_add (ha : R3 X a ta) (hb : R3 X b tb) : P3 X (.BinOp a .Add b pos) (x2 cAdd ta tb) := p3_op (op_add.or (op_add_str.or (op_catA.or op_cat))) con_add ha hb
/-! ### a * b of any kind -/
/-! ### built-in functions of one and of two arguments -/
abbrev C1 := T → TE3
def x1 (c : C1) (ta : TE3) : TE3 := fun r Q => ta r fun x r1 => c x r1 Q
def Con1 (X : Cx) (rd : List V → Hp → VK → Prop) (c : C1) : Prop := ∀ (G Z H : Hp) (ks : List T) (vs : List V) (r : Rho) (s : L2.St) (x : V) (tx : T) (Q : VK) (Q3 : T → Rho → Prop), S3 X.K G Z H ks vs r s → Pv X.K Z r s tx x → c tx r Q3 →
  (∀ Z' H' t v r', Gr G Z Z' → S3 X.K G Z' H' ks vs r' s → Pv X.K Z' r' s t v → Q3 t r' → Q v H') → rd [x] H Q
variable {id : String} {x : Str} {rd : List V → Hp → VK → Prop} {p : Pos}
theorem r3_callB {c : C1} (hc : CallR X (.builtin id) rd) (cn : Con1 X rd c) (hg : Gl X x) (hm : X.mg x = none) (hv : bootBuiltins x = some (.builtin id)) (ha : R3 X a ta) (hn : x ≠ "__name__" := by decide) (hdb : (x == ("__debug__" : Str)) = false := by decide)
    (he : starEach [a] X.env = (false, eval a X.env) :: starEach [] X.env := by rfl) (hpl : (backTo pos (starEach [] X.env)).any (·.1) = false := by rfl) : R3 X (.Call (.Name x p) [a] [] pos) (x1 c ta) := by
  obtain ⟨tea, ea, sa⟩ := ha.ex
  exact ⟨_, pe_callB hc hg hm hv (pa_cons ea pa_nil he) hn hdb he hpl, fun G Z H ks vs r s Q Q3 st ht k => sa G Z H ks vs r s _ _ st ht fun Z1 H1 x v r1 g1 st1 pv q =>
    cn G Z1 H1 ks vs r1 s v x Q Q3 st1 pv q fun Z2 H2 t w r2 g2 => k Z2 H2 t w r2 (g1.trans g2)⟩
theorem r3_callT {c : C1} (hc : CallR X (.type id) rd) (cn : Con1 X rd c) (hg : Gl X x) (hm : X.mg x = none) (hv : bootBuiltins x = some (.type id)) (ha : R3 X a ta) (hn : x ≠ "__name__" := by decide) (hdb : (x == ("__debug__" : Str)) = false := by decide)
    (he : starEach [a] X.env = (false, eval a X.env) :: starEach [] X.env := by rfl) (hpl : (backTo pos (starEach [] X.env)).any (·.1) = false := by rfl) : R3 X (.Call (.Name x p) [a] [] pos) (x1 c ta) := by
  obtain ⟨tea, ea, sa⟩ := ha.ex
  exact ⟨_, pe_callTy hc hg hm hv (pa_cons ea pa_nil he) hn hdb he hpl, fun G Z H ks vs r s Q Q3 st ht k => sa G Z H ks vs r s _ _ st ht fun Z1 H1 x v r1 g1 st1 pv q =>
    cn G Z1 H1 ks vs r1 s v x Q Q3 st1 pv q fun Z2 H2 t w r2 g2 => k Z2 H2 t w r2 (g1.trans g2)⟩
/-- len(x) -/
def cLen : C1 := fun x r Q => match x with
  | .d (.list l) => Q (.d (.int l.length)) r
  | .d (.tuple l) => Q (.d (.int l.length)) r
  | .d (.str z) => z.length ≤ sizeLine ∧ Q (.d (.int z.length)) r
  | .sc _ ns => Q (.d (.int ns.length)) r
  | .own _ l => Q (.d (.int l.length)) r
  | .tp l => Q (.d (.int l.length)) r
  | _ => False
theorem con_len : Con1 X (fun xs H Q => ∃ x n, xs = [x] ∧ LenV X.K x H n ∧ Q (.int n) H) cLen := fun G Z H ks vs r s x tx Q Q3 st px hc k => by
  have fin : ∀ {n : Nat}, Q3 (.d (.int n)) r → Q (.int n) H := fun q => k Z H (.d (.int _)) _ r (Gr.refl _ _) st (Dq.int _) q
  unfold cLen at hc
  split at hc
  · cases (show Dq X.K Z x (.list _) from px) with
    | lst hs ha => exact ⟨_, _, rfl, .inl ⟨_, SqL.of (st.zh _ _ hs), rfl⟩, fin (by rw [← dpa_len ha]; exact hc)⟩
  · cases (show Dq X.K Z x (.tuple _) from px) with
    | tup hs ha => exact ⟨_, _, rfl, .inr ⟨_, SqT.of (st.zh _ _ hs), rfl⟩, fin (by rw [← dpa_len ha]; exact hc)⟩
  · cases px.str
    exact ⟨_, _, rfl, ⟨hc.1, rfl⟩, fin hc.2⟩
  · obtain ⟨rfl, hs⟩ := px
    exact ⟨_, _, rfl, .inl ⟨_, st.zh.L hs, rfl⟩, fin (by rw [List.length_map]; exact hc)⟩
  · have rt := px.now st
    cases rt with
    | own h1 h2 => exact ⟨_, _, rfl, .inl ⟨_, SqL.of h1, rfl⟩, fin (by rw [← rts_len h2]; exact hc)⟩
  · have rt := px.now st
    cases rt with
    | tp h1 h2 => exact ⟨_, _, rfl, .inr ⟨_, SqT.of (st.zh _ _ h1), rfl⟩, fin (by rw [← rts_len h2]; exact hc)⟩
  · exact hc.elim
theorem r3_len (hg : Gl X "len") (hm : X.mg "len" = none) (ha : R3 X a ta) (he : starEach [a] X.env = (false, eval a X.env) :: starEach [] X.env := by rfl) : R3 X (.Call (.Name "len" p) [a] [] pos) (x1 cLen ta) := r3_callB call_len con_len hg hm PySem.boot_len ha (by decide) (by decide) he
/-- abs(i) -/
def cAbs : C1 := fun x r Q => asI x fun i => Q (.d (.int i.natAbs)) r
theorem con_abs : Con1 X (fun xs H Q => ∃ i, xs = [.int i] ∧ Q (.int (if i < 0 then -i else i)) H) cAbs := fun G Z H ks vs r s x tx Q Q3 st px hc k => by
  obtain ⟨i, rfl, q⟩ := asI_of hc
  cases px.int
  have e : (if i < 0 then -i else i) = (i.natAbs : Int) := by split <;> omega
  refine ⟨i, rfl, ?_⟩
  rw [e]
  exact k Z H (.d (.int _)) _ r (Gr.refl _ _) st (Dq.int _) q
theorem r3_abs (hg : Gl X "abs") (hm : X.mg "abs" = none) (ha : R3 X a ta) (he : starEach [a] X.env = (false, eval a X.env) :: starEach [] X.env := by rfl) : R3 X (.Call (.Name "abs" p) [a] [] pos) (x1 cAbs ta) := r3_callB call_abs con_abs hg hm boot_abs ha (by decide) (by decide) he
/-- intL of a list -/
def asIs (t : T) (k : List Int → Prop) : Prop := match t with
  | .d (.list l) => allI l = true ∧ k (intL l)
  | .own _ l => alld l = true ∧ allI (fzs l) = true ∧ k (intL (fzs l))
  | .sc _ ns => k ns
  | _ => False
theorem asIs_of {K : PySem.W.Frag} {G Z H : Hp} {ks : List T} {vs : List V} {r : Rho} {s : L2.St} {t : T} {v : V} {k : List Int → Prop} (h : asIs t k) (st : S3 K G Z H ks vs r s) (p : Pv K Z r s t v) : ∃ a ns, v = .ref a ∧ SqL K H a (ns.map V.int) ∧ k ns := by
  unfold asIs at h
  split at h
  · rename_i l
    cases (show Dq K Z v (.list _) from p) with
    | @lst a xs _ hs ha =>
      have e := allI_eq h.1
      rw [e] at ha
      rw [dqa_inv ha] at hs
      exact ⟨a, _, rfl, SqL.of (st.zh _ _ hs), h.2⟩
  · rename_i a l
    obtain ⟨xs, rfl, h1, d1, _⟩ := own_data (p.now st) h.1
    rw [allI_eq h.2.1] at d1
    rw [dqa_inv d1] at h1
    exact ⟨a, _, rfl, SqL.of h1, h.2.2⟩
  · rename_i a ns
    exact ⟨a, ns, p.1, st.zh.L p.2, h⟩
  · exact h.elim
def cSum : C1 := fun x r Q => asIs x fun ns => Q (.d (.int ns.sum)) r
theorem con_sum : Con1 X (rSum X.K) cSum := fun G Z H ks vs r s x tx Q Q3 st px hc k => by
  obtain ⟨a, ns, rfl, hs, q⟩ := asIs_of hc st px
  exact ⟨a, ns, rfl, hs, k Z H (.d (.int _)) _ r (Gr.refl _ _) st (Dq.int _) q⟩
theorem r3_sum (hc : X.calm = true) (hg : Gl X "sum") (hm : X.mg "sum" = none) (ha : R3 X a ta) (he : starEach [a] X.env = (false, eval a X.env) :: starEach [] X.env := by rfl) : R3 X (.Call (.Name "sum" p) [a] [] pos) (x1 cSum ta) := r3_callB (cr_sum hc) con_sum hg hm boot_sum ha (by decide) (by decide) he
def cMaxL : C1 := fun x r Q => asIs x fun ns => ns ≠ [] ∧ Q (.d (.int (maxL ns))) r
theorem con_max : Con1 X (rMax X.K) cMaxL := fun G Z H ks vs r s x tx Q Q3 st px hc k => by
  obtain ⟨a, ns, rfl, hs, hn, q⟩ := asIs_of hc st px
  refine ⟨a, ns, rfl, hs, List.length_pos_iff.mpr hn, fun m hm hy => ?_⟩
  have e : m = maxL ns := Int.le_antisymm (maxL_ge hm) (hy _ (maxL_mem hn))
  rw [e]
  exact k Z H (.d (.int _)) _ r (Gr.refl _ _) st (Dq.int _) q
theorem r3_maxL (hc : X.calm = true) (hg : Gl X "max") (hm : X.mg "max" = none) (ha : R3 X a ta) (he : starEach [a] X.env = (false, eval a X.env) :: starEach [] X.env := by rfl) : R3 X (.Call (.Name "max" p) [a] [] pos) (x1 cMaxL ta) := r3_callB (cr_max hc) con_max hg hm boot_max ha (by decide) (by decide) he
/-- tuple(x) -/
def cTup : C1 := fun x r Q => match x with
  | .d (.list l) => Q (.d (.tuple l)) r
  | .d (.tuple l) => Q (.d (.tuple l)) r
  | .own _ l => alld l = true ∧ Q (.d (.tuple (fzs l))) r
  | .sc _ ns => Q (.d (.tuple (ns.map PyData.int))) r
  | _ => False
theorem con_tup : Con1 X (fun xs H Q => ∃ p ys, xs = [.ref p] ∧ ((SqL X.K H p ys ∧ ∀ l, H l = none → Q (.ref l) (upd H l (.tup ys))) ∨ (SqT X.K H p ys ∧ Q (.ref p) H))) cTup := fun G Z H ks vs r s x tx Q Q3 st px hc k => by
  have new : ∀ {xs : List V} {l : List PyData}, DqAll X.K Z xs l → Q3 (.d (.tuple l)) r → ∀ p, H p = none → Q (.ref p) (upd H p (.tup xs)) := fun {xs l} hd q p hp => by
    obtain ⟨g4, st4⟩ := st.laidG (o := .tup xs) hp
    exact k _ _ (.d (.tuple l)) _ r g4 st4 (Dq.tup upd_same (dpa_mono g4.sub _ _ hd)) q
  unfold cTup at hc
  split at hc
  · cases (show Dq X.K Z x (.list _) from px) with
    | lst hs ha => exact ⟨_, _, rfl, .inl ⟨SqL.of (st.zh _ _ hs), new ha hc⟩⟩
  · cases (show Dq X.K Z x (.tuple _) from px) with
    | tup hs ha => exact ⟨_, _, rfl, .inr ⟨SqT.of (st.zh _ _ hs), k Z H (.d (.tuple _)) _ r (Gr.refl _ _) st (Dq.tup hs ha) hc⟩⟩
  · obtain ⟨xs, rfl, h1, d1, _⟩ := own_data (px.now st) hc.1
    exact ⟨_, _, rfl, .inl ⟨SqL.of h1, new d1 hc.2⟩⟩
  · obtain ⟨rfl, hs⟩ := px
    exact ⟨_, _, rfl, .inl ⟨st.zh.L hs, new (dqa_ints _) hc⟩⟩
  · exact hc.elim
theorem r3_tuple (hg : Gl X "tuple") (hm : X.mg "tuple" = none) (ha : R3 X a ta) (he : starEach [a] X.env = (false, eval a X.env) :: starEach [] X.env := by rfl) : R3 X (.Call (.Name "tuple" p) [a] [] pos) (x1 cTup ta) := r3_callT call_tuple_of con_tup hg hm boot_tuple ha (by decide) (by decide) he
/-- str(i) -/
def cStr : C1 := fun x r Q => asI x fun i => i.natAbs.log2 < 1920 ∧ Q (.d (.str (toString i))) r
theorem con_str : Con1 X (fun xs H Q => ∃ i, xs = [.int i] ∧ i.natAbs.log2 < 1920 ∧ Q (.str (toString i)) H) cStr := fun G Z H ks vs r s x tx Q Q3 st px hc k => by
  obtain ⟨i, rfl, h1, q⟩ := asI_of hc
  cases px.int
  exact ⟨i, rfl, h1, k Z H (.d (.str _)) _ r (Gr.refl _ _) st (Dq.str _) q⟩
theorem r3_str_ (hg : Gl X "str") (hm : X.mg "str" = none) (ha : R3 X a ta) (he : starEach [a] X.env = (false, eval a X.env) :: starEach [] X.env := by rfl) : R3 X (.Call (.Name "str" p) [a] [] pos) (x1 cStr ta) := r3_callT call_str_int con_str hg hm boot_str ha (by decide) (by decide) he
/-- int(x): an int, a truth, a text -/
def cInt : C1 := fun x r Q => match x with
  | .d (.int i) => Q (.d (.int i)) r
  | .d (.bool b) => Q (.d (.int (if b then 1 else 0))) r
  | .d (.str z) => ∃ n, PySem.intText? z = some n ∧ z.length ≤ 640 ∧ Q (.d (.int n)) r
  | _ => False
theorem con_int : Con1 X (fun xs H Q => ((∃ i, xs = [.int i] ∧ Q (.int i) H) ∨ ∃ k, xs = [.bl k] ∧ Q (.int (if k then 1 else 0)) H) ∨ ∃ a n, xs = [.str a] ∧ PySem.intText? a = some n ∧ a.length ≤ 640 ∧ Q (.int n) H) cInt := fun G Z H ks vs r s x tx Q Q3 st px hc k => by
  unfold cInt at hc
  split at hc
  · cases px.int
    exact .inl (.inl ⟨_, rfl, k Z H (.d (.int _)) _ r (Gr.refl _ _) st (Dq.int _) hc⟩)
  · cases px.bool
    exact .inl (.inr ⟨_, rfl, k Z H (.d (.int _)) _ r (Gr.refl _ _) st (Dq.int _) hc⟩)
  · cases px.str
    obtain ⟨n, h1, h2, q⟩ := hc
    exact .inr ⟨_, n, rfl, h1, h2, k Z H (.d (.int _)) _ r (Gr.refl _ _) st (Dq.int _) q⟩
  · exact hc.elim
theorem r3_int_ (hg : Gl X "int") (hm : X.mg "int" = none) (ha : R3 X a ta) (he : starEach [a] X.env = (false, eval a X.env) :: starEach [] X.env := by rfl) : R3 X (.Call (.Name "int" p) [a] [] pos) (x1 cInt ta) := r3_callT (call_int1.or call_int_str) con_int hg hm boot_int ha (by decide) (by decide) he
end
end L3
namespace L3
open PySem PySem.Spec PyProof.Rows L2
/-! ### a list of one's own is written -/
section
variable {K : PySem.W.Frag} {G Z H : Hp} {ks : List T} {vs : List V} {r : Rho} {s : L2.St} {t : T} {v : V} {a b : Addr} {l l' m m' : List T} {xs xs' : List V}
theorem S3.ownAt (h : S3 K G Z H (t :: .own a l :: ks) (v :: .ref a :: vs) r s) : ∃ xs, H a = some (.lst xs) ∧ RTs K Z H l xs ∧ RT K Z H t v ∧ RTs K Z H ks vs ∧ ct a t = 0 ∧ cts a l = 0 ∧ cts a ks = 0 ∧ cto a r = 0 := by
  have h1 := h.one a
  simp only [cts, ct, if_true] at h1
  cases h.stk with
  | cons q1 q2 =>
    cases q2 with
    | cons q3 q4 =>
      cases q3 with
      | own e1 e2 => exact ⟨_, e1, e2, q1, q4, by omega, by omega, by omega, by omega⟩
theorem S3.write (h : S3 K G Z H (t :: .own a l :: ks) (v :: .ref a :: vs) r s) (rl : RTs K Z H l' xs') (hc : ∀ b, cts b l' ≤ ct b t + cts b l) : S3 K G Z (upd H a (.lst xs')) (.own a l' :: ks) (.ref a :: vs) r s := by
  obtain ⟨xs, e1, e2, e3, e4, c1, c2, c3, c4⟩ := h.ownAt
  have own1 := h.ow a (by simp only [cts, ct, if_true]; omega)
  have keep : ∀ b, b ≠ a → ∀ o, H b = some o → upd H a (.lst xs') b = some o := fun b hb o e => by rw [upd_ne hb]; exact e
  have na : ∀ b, 0 < cts b l' → b ≠ a := fun b hb e => by subst e; have := hc b; omega
  refine ⟨fun b o e => keep b (fun q => by rw [q, own1.1] at e; cases e) o (h.zh b o e), fun b o e => keep b (fun q => by rw [q, own1.2] at e; cases e) o (h.gh b o e), fun b => ?_, fun b c => h.ow b ?_, .cons (.own upd_same (rts_mono (Sub.refl _) _ _ (fun b hb => keep b (na b hb)) rl)) (rts_mono (Sub.refl _) _ _ (fun b hb => keep b (fun q => by subst q; omega)) e4), fun i u e => ?_, h.len⟩
  · have h1 := h.one b
    have h2 := hc b
    simp only [cts, ct] at h1 ⊢
    omega
  · have h2 := hc b
    simp only [cts, ct] at c ⊢
    omega
  · obtain ⟨w, e1, q⟩ := h.slot i u e
    exact ⟨w, e1, rt_mono (Sub.refl _) _ _ (fun b hb => keep b (fun q => by subst q; have := cto_get b r i u e; omega)) q⟩
/-- an inner one -/
theorem S3.write2 {i : Nat} {ys' : List V} (h : S3 K G Z H (t :: .own a l :: ks) (v :: .ref a :: vs) r s) (hi : l[i]? = some (.own b m)) (rl : RTs K Z H m' ys') (hc : ∀ c, cts c m' ≤ ct c t + cts c m) :
    S3 K G Z (upd H b (.lst ys')) (.own a (l.set i (.own b m')) :: ks) (.ref a :: vs) r s := by
  obtain ⟨xs, e1, e2, e3, e4, c1, c2, c3, c4⟩ := h.ownAt
  have hb1 := cts_get b l i _ hi
  simp only [ct, if_true] at hb1
  have h1 := h.one b
  simp only [cts, ct] at h1
  have hab : a ≠ b := fun q => by subst q; omega
  rw [if_neg hab] at h1
  have own1 := h.ow b (by simp only [cts, ct]; omega)
  have keep : ∀ c, c ≠ b → ∀ o, H c = some o → upd H b (.lst ys') c = some o := fun c hc o e => by rw [upd_ne hc]; exact e
  have cset : ∀ c, cts c (l.set i (.own b m')) + cts c m = cts c l + cts c m' := fun c => by
    have := cts_set c l i _ (.own b m') hi
    simp only [ct] at this
    omega
  have nb : ∀ c, 0 < cts c m' → c ≠ b := fun c hc' e => by subst e; have := hc c; have := cts_get c l i _ hi; simp only [ct, if_true] at this; omega
  have items : ∀ {l : List T} {xs : List V} {i : Nat}, RTs K Z H l xs → l[i]? = some (.own b m) → cts b l ≤ 1 → RTs K Z (upd H b (.lst ys')) (l.set i (.own b m')) xs := by
    intro l
    induction l with
    | nil => intro xs i q e; simp at e
    | cons x l ih =>
      intro xs i q e cb
      cases q with
      | cons q1 q2 =>
        cases i with
        | zero =>
          have e' : x = .own b m := by simpa using e
          subst e'
          simp only [cts, ct, if_true] at cb
          cases q1 with
          | own k1 k2 => exact .cons (.own upd_same (rts_mono (Sub.refl _) _ _ (fun c hc => keep c (nb c hc)) rl)) (rts_mono (Sub.refl _) _ _ (fun c hc => keep c (fun q => by subst q; omega)) q2)
        | succ i =>
          have e' : l[i]? = some (.own b m) := by simpa using e
          have := cts_get b l i _ e'
          simp only [ct, if_true] at this
          simp only [cts] at cb
          exact .cons (rt_mono (Sub.refl _) _ _ (fun c hc => keep c (fun q => by subst q; omega)) q1) (ih q2 e' (by omega))
  refine ⟨fun c o e => keep c (fun q => by rw [q, own1.1] at e; cases e) o (h.zh c o e), fun c o e => keep c (fun q => by rw [q, own1.2] at e; cases e) o (h.gh c o e), fun c => ?_, fun c k => h.ow c ?_, .cons (.own (keep a hab _ e1) (items e2 hi (by omega))) (rts_mono (Sub.refl _) _ _ (fun c hc => keep c (fun q => by subst q; omega)) e4), fun j u e => ?_, h.len⟩
  · have h2 := h.one c
    have h3 := cset c
    have h4 := hc c
    simp only [cts, ct] at h2 ⊢
    omega
  · have h3 := cset c
    have h4 := hc c
    simp only [cts, ct] at k ⊢
    omega
  · obtain ⟨w, e1, q⟩ := h.slot j u e
    exact ⟨w, e1, rt_mono (Sub.refl _) _ _ (fun c hc => keep c (fun q => by subst q; have := cto_get c r j u e; omega)) q⟩
theorem rts_set : ∀ {l : List T} {xs : List V} (i : Nat), RTs K Z H l xs → RT K Z H t v → RTs K Z H (l.set i t) (xs.set i v)
  | _, _, _, .nil, _ => .nil
  | _, _, 0, .cons _ q, h => .cons h q
  | _, _, i + 1, .cons p q, h => .cons p (rts_set i q h)
theorem rts_snoc {l : List T} {xs : List V} (q : RTs K Z H l xs) (h : RT K Z H t v) : RTs K Z H (l ++ [t]) (xs ++ [v]) := rts_app q (.cons h .nil)
theorem S3.pushN (h : S3 K G Z H ks vs r s) : S3 K G Z H (.d .none :: ks) (.non :: vs) r s := h.pushD .non
end
/-! ### a call of a def -/
inductive Arg where
  | val (t : T) | io (i : Nat)
def ArgOk (K : PySem.W.Frag) (Z : Hp) (s : L2.St) (x : Arg) (v : V) : Prop :=
  match x with
  | .val (.d x) => Dq K Z v x
  | .val (.v x) => v = x
  | .val (.sc a ns) => v = .ref a ∧ SqL K Z a (ns.map V.int)
  | .val _ => False
  | .io i => s[i]? = some (some v)
theorem ArgOk.keep {K : PySem.W.Frag} {Z Z' : Hp} {s : L2.St} {x : Arg} {v : V} (h : ArgOk K Z s x v) (z : Sub Z Z') : ArgOk K Z' s x v := by
  cases x with
  | io i => exact h
  | val t =>
    cases t with
    | d x => exact dp_mono z x v h
    | v x => exact h
    | sc a ns => exact ⟨h.1, z.L h.2⟩
    | own _ _ => exact h
    | tp _ => exact h
    | ob _ _ _ _ _ _ => exact h
    | hx _ _ _ => exact h
abbrev TC3 := Rho → (List Arg → Rho → Prop) → Prop
structure C3 (X : Cx) (es : List Expr) (t : TC3) : Prop where
  ex : ∃ te : TA, PA X es te ∧ ∀ (G Z H : Hp) (ks : List T) (vs : List V) (r : Rho) (s : L2.St) (Q : List V → Hp → Prop) (Q3 : List Arg → Rho → Prop), S3 X.K G Z H ks vs r s → t r Q3 →
    (∀ Z' H' xs us r', Gr G Z Z' → S3 X.K G Z' H' ks vs r' s → Paired (ArgOk X.K Z' s) xs us → Q3 xs r' → Q us H') → te s H Q
section
variable {X : Cx} {e : Expr} {es : List Expr} {t : TE3} {u : TC3} {pos : Pos}
def xANil : TC3 := fun r Q => Q [] r
theorem c3_nil : C3 X [] xANil := ⟨_, pa_nil, fun G Z H ks vs r s Q Q3 st ht k => k Z H [] [] r (Gr.refl _ _) st .nil ht⟩
def xArg (t : TE3) (u : TC3) : TC3 := fun r Q => t r fun x r1 => match x with | .d y => u r1 fun as r2 => Q (.val (.d y) :: as) r2 | .v y => u r1 fun as r2 => Q (.val (.v y) :: as) r2 | .sc a ns => u r1 fun as r2 => Q (.val (.sc a ns) :: as) r2 | _ => False
theorem c3_val (ha : R3 X e t) (hr : C3 X es u) (hs : starEach (e :: es) X.env = (false, eval e X.env) :: starEach es X.env := by rfl) : C3 X (e :: es) (xArg t u) := by
  obtain ⟨tea, ea, sa⟩ := ha.ex
  obtain ⟨ter, er, sr⟩ := hr.ex
  refine ⟨_, pa_cons ea er hs, fun G Z H ks vs r s Q Q3 st ht k => sa G Z H ks vs r s _ _ st ht fun Z1 H1 x v r1 g1 st1 pv q1 => ?_⟩
  have fin : ∀ x : T, (∀ Z', Sub Z1 Z' → ArgOk X.K Z' s (.val x) v) → u r1 (fun as r2 => Q3 (.val x :: as) r2) → ter s H1 (fun us H2 => Q (v :: us) H2) := fun x ok q => sr G Z1 H1 ks vs r1 s _ _ st1 q fun Z2 H2 xs us r2 g2 st2 hp q2 =>
    k Z2 H2 (.val x :: xs) (v :: us) r2 (g1.trans g2) st2 (.cons (ok Z2 g2.sub) hp) q2
  cases x with
  | d y => exact fin (.d y) (fun Z' z => dp_mono z y v pv) q1
  | v y => exact fin (.v y) (fun Z' z => pv) q1
  | sc a ns => exact fin (.sc a ns) (fun Z' z => ⟨pv.1, z.L pv.2⟩) q1
  | own _ _ => exact q1.elim
  | tp _ => exact q1.elim
  | ob _ _ _ _ _ _ => exact q1.elim
  | hx _ _ _ => exact q1.elim
def xIo (i : Nat) (u : TC3) : TC3 := fun r Q => match r[i]? with | some (some _) => u r fun as r2 => Q (.io i :: as) r2 | _ => False
theorem c3_io (i : Nat) {x : Str} {p : Pos} (hr : C3 X es u) (hN : X.N[i]? = some x := by rfl) (hv : Vis X.env.scope x := by first | exact Or.inl rfl | exact Or.inr (Or.inl rfl) | exact Or.inr (Or.inr rfl)) (hd : (x == ("__debug__" : Str)) = false := by decide)
    (hcd : (x == ("__classdict__" : Str)) = false := by decide) (hs : starEach (.Name x p :: es) X.env = (false, eval (.Name x p) X.env) :: starEach es X.env := by rfl) : C3 X (.Name x p :: es) (xIo i u) := by
  obtain ⟨ter, er, sr⟩ := hr.ex
  refine ⟨_, pa_cons (pe_var hN hv hd hcd) er hs, fun G Z H ks vs r s Q Q3 st ht k => ?_⟩
  unfold xIo at ht
  split at ht
  · rename_i t e
    obtain ⟨v, ev, _⟩ := st.slot i t e
    exact ⟨v, ev, sr G Z H ks vs r s _ _ st ht fun Z2 H2 xs us r2 g2 st2 hp q2 => k Z2 H2 (.io i :: xs) (v :: us) r2 g2 st2 (.cons ev hp) q2⟩
  · exact ht.elim
end
def looks (r : Rho) : List Arg → Option (List T)
  | [] => some []
  | .val t :: as => (looks r as).map (t :: ·)
  | .io i :: as => match r[i]? with
    | some (some t) => (looks r as).map (t :: ·)
    | _ => none
def ios : List Arg → List Nat
  | [] => []
  | .val _ :: as => ios as
  | .io i :: as => i :: ios as
def puts (r : Rho) : List Arg → List T → Rho
  | .val _ :: as, _ :: ts => puts r as ts
  | .io i :: as, t :: ts => puts (r.set i (some t)) as ts
  | _, _ => r
def outs (r : Rho) : List Arg → Rho
  | [] => r
  | .val _ :: as => outs r as
  | .io i :: as => (outs r as).set i none
theorem outs_len (r : Rho) : ∀ as, (outs r as).length = r.length
  | [] => rfl
  | .val _ :: as => outs_len r as
  | .io i :: as => by show ((outs r as).set i none).length = _; rw [List.length_set, outs_len r as]
theorem outs_get {r : Rho} {j : Nat} : ∀ {as : List Arg}, j ∉ ios as → (outs r as)[j]? = r[j]?
  | [], _ => rfl
  | .val _ :: as, h => outs_get (as := as) h
  | .io i :: as, h => by
    have h1 : j ≠ i := fun e => h (by rw [e]; exact List.mem_cons_self ..)
    have h2 : j ∉ ios as := fun e => h (List.mem_cons_of_mem _ e)
    show ((outs r as).set i none)[j]? = _
    rw [List.getElem?_set_ne (Ne.symm h1)]
    exact outs_get h2
/-- a promise, by values: the arguments (lists of one's own may be changed), what is handed back and the arguments behind the call; an exception's class and the arguments -/
abbrev Sp3 := List T → (T → List T → Prop) → (Addr → List T → Prop) → Prop
def lift (K : PySem.W.Frag) (sp : Sp3) : Sp := fun vs H Q E => ∃ (G Z : Hp) (ts : List T) (Q3 : T → List T → Prop) (E3 : Addr → List T → Prop), S3 K G Z H ts vs [] [] ∧ sp ts Q3 E3 ∧
  (∀ Z' H' x v ts', Gr G Z Z' → S3 K G Z' H' (x :: ts') (v :: vs) [] [] → Q3 x ts' → Q v H') ∧
  (∀ Z' H' C ts', Gr G Z Z' → S3 K G Z' H' ts' vs [] [] → E3 C ts' → E (.ref C) none H')
section
variable {K : PySem.W.Frag} {G Z H : Hp} {ks : List T} {vs : List V} {r : Rho} {s : L2.St}
/-- the arguments taken out of the slots -/
theorem S3.args (h : S3 K G Z H ks vs r s) : ∀ {as : List Arg} {us : List V} {ts : List T}, Paired (ArgOk K Z s) as us → looks r as = some ts → (ios as).Nodup → ts.length = us.length ∧ S3 K G Z H (ts ++ ks) (us ++ vs) (outs r as) s
  | [], _, ts, .nil, e, _ => by
    cases e
    exact ⟨rfl, h⟩
  | .val t :: as, _, ts, .cons p q, e, nd => by
    simp only [looks, Option.map_eq_some_iff] at e
    obtain ⟨ts', e1, rfl⟩ := e
    obtain ⟨hl, st⟩ := h.args q e1 nd
    refine ⟨by simp [hl], ?_⟩
    cases t with
    | d x => exact st.pushD p
    | v x => exact st.push (fun _ => rfl) (by rw [show _ = x from p]; exact .v)
    | sc a ns => exact st.push (fun _ => rfl) (by rw [show _ = V.ref a from p.1]; exact .sc p.2)
    | own _ _ => exact p.elim
    | tp _ => exact p.elim
    | ob _ _ _ _ _ _ => exact p.elim
    | hx _ _ _ => exact p.elim
  | .io i :: as, _, ts, .cons p q, e, nd => by
    simp only [looks] at e
    split at e
    · rename_i t ht
      simp only [Option.map_eq_some_iff] at e
      obtain ⟨ts', e1, rfl⟩ := e
      have nd' : i ∉ ios as ∧ (ios as).Nodup := by
        have : (i :: ios as).Nodup := nd
        rw [List.nodup_cons] at this
        exact this
      obtain ⟨hl, st⟩ := h.args q e1 nd'.2
      refine ⟨by simp [hl], ?_⟩
      obtain ⟨v, ev, st2⟩ := st.take (i := i) (t := t) (by rw [outs_get nd'.1]; exact ht)
      have e2 : s[i]? = some (some _) := p
      rw [ev] at e2
      cases e2
      exact st2
    · cases e
theorem S3.ret : ∀ {as : List Arg} {us : List V} {ts : List T} {r r0 : Rho}, Paired (ArgOk K Z s) as us → ts.length = us.length → (ios as).Nodup → r0.length = r.length → (∀ i, i ∉ ios as → r0[i]? = r[i]?) → (∀ i ∈ ios as, r0[i]? = some none ∨ r0[i]? = none) → S3 K G Z H (ts ++ ks) (us ++ vs) r0 s → S3 K G Z H ks vs (puts r as ts) s
  | [], _, [], r, r0, .nil, _, _, hl, hr, _, h => by
    have e : r0 = r := List.ext_getElem? fun i => hr i (by simp [ios])
    rw [e] at h
    exact h
  | [], _, _ :: _, _, _, .nil, hl, _, _, _, _, _ => by simp at hl
  | .val t :: as, _, [], _, _, .cons p q, hl, _, _, _, _, _ => by simp at hl
  | .io t :: as, _, [], _, _, .cons p q, hl, _, _, _, _, _ => by simp at hl
  | .val t :: as, _, t' :: ts, r, r0, .cons p q, hl, nd, hl0, hr, hn, h => S3.ret (as := as) q (by simpa using hl) nd hl0 hr hn h.pop
  | .io i :: as, _, t' :: ts, r, r0, .cons p q, hl, nd, hl0, hr, hn, h => by
    have nd' : i ∉ ios as ∧ (ios as).Nodup := by
      have : (i :: ios as).Nodup := nd
      rw [List.nodup_cons] at this
      exact this
    by_cases hi : i < r0.length
    · have st := h.back hi p
      refine S3.ret (as := as) (r := r.set i (some t')) q (by simpa using hl) nd'.2 (by rw [List.length_set, List.length_set]; exact hl0) (fun j hj => ?_) (fun j hj => ?_) st
      · by_cases e : j = i
        · subst e
          rw [List.getElem?_set_self hi, List.getElem?_set_self (by omega)]
        · rw [List.getElem?_set_ne (Ne.symm e), List.getElem?_set_ne (Ne.symm e)]
          refine hr j fun z => ?_
          rcases List.mem_cons.mp z with z | z
          · exact e z
          · exact hj z
      · have e : j ≠ i := fun e => nd'.1 (e ▸ hj)
        rw [List.getElem?_set_ne (Ne.symm e)]
        exact hn j (List.mem_cons_of_mem _ hj)
    · have h2 := h.len
      have : i < s.length := (List.getElem?_eq_some_iff.mp (show s[i]? = some (some _) from p)).1
      omega
end
section
variable {X : Cx} {es : List Expr} {e : Expr} {u : TC3} {pos p : Pos} {sp : Sp3} {k : Nat} {f : Addr} {fd : FuncData} {ps : List Str} {x : Str}
def xCall (sp : Sp3) (E : Addr → List T → Prop) (u : TC3) : TE3 := fun r Q => u r fun as r1 => match looks r1 as with
  | some ts => (ios as).Nodup ∧ sp ts (fun x ts' => Q x (puts r1 as ts')) E
  | none => False
theorem outs_none {r : Rho} : ∀ {as : List Arg} {i : Nat}, i ∈ ios as → (outs r as)[i]? = some none ∨ (outs r as)[i]? = none
  | [], i, h => by simp [ios] at h
  | .val _ :: as, i, h => outs_none (as := as) h
  | .io j :: as, i, h => by
    show ((outs r as).set j none)[i]? = some none ∨ ((outs r as).set j none)[i]? = none
    by_cases e : i = j
    · subst e
      by_cases hi : i < (outs r as).length
      · left; rw [List.getElem?_set_self hi]
      · right; exact List.getElem?_eq_none (by rw [List.length_set]; omega)
    · rw [List.getElem?_set_ne (Ne.symm e)]
      rcases List.mem_cons.mp h with z | z
      · exact absurd z e
      · exact outs_none z
/-- from the caller's state to the callee's promise -/
theorem call_run {G Z H : Hp} {ks : List T} {vs : List V} {r : Rho} {s : L2.St} {as : List Arg} {us : List V} {Q : VK} {E : XK} {Q3 : T → Rho → Prop} {E3 : Addr → List T → Prop} (st : S3 X.K G Z H ks vs r s) (hp : Paired (ArgOk X.K Z s) as us)
    (h : match looks r as with | some ts => (ios as).Nodup ∧ sp ts (fun x ts' => Q3 x (puts r as ts')) E3 | none => False)
    (kq : ∀ Z' H' x v r', Gr G Z Z' → S3 X.K G Z' H' (x :: ks) (v :: vs) r' s → Q3 x r' → Q v H')
    (ke : ∀ Z' H' C ts' r', Gr G Z Z' → S3 X.K G Z' H' ks vs r' s → r' = puts r as ts' → E3 C ts' → E (.ref C) none H') : lift X.K sp us H Q E := by
  split at h
  · rename_i ts hl
    obtain ⟨nd, hsp⟩ := h
    obtain ⟨hlen, st1⟩ := st.args hp hl nd
    have splt : ∀ {Z H : Hp} {l : List T} {xs : List V}, l.length = xs.length → RTs X.K Z H (l ++ ks) (xs ++ vs) → RTs X.K Z H l xs ∧ RTs X.K Z H ks vs := by
      intro Z H l
      induction l with
      | nil => intro xs hl q; cases xs with | nil => exact ⟨.nil, q⟩ | cons _ _ => simp at hl
      | cons t l ih =>
        intro xs hl q
        cases xs with
        | nil => simp at hl
        | cons x xs =>
          cases q with
          | cons q1 q2 =>
            obtain ⟨z1, z2⟩ := ih (by simpa using hl) q2
            exact ⟨.cons q1 z1, z2⟩
    obtain ⟨s1, s2⟩ := splt hlen st1.stk
    -- the callee's part
    have sub : S3 X.K (fun a => if 0 < cts a ts then none else H a) Z H ts us [] [] := ⟨st1.zh, fun a o e => by
        by_cases c : 0 < cts a ts
        · simp [c] at e
        · simpa [c] using e, fun a => by have := st1.one a; rw [cts_append] at this; simp only [cto]; omega, fun a c => by
        simp only [cto, Nat.add_zero] at c
        exact ⟨(st1.ow a (by rw [cts_append]; omega)).1, if_pos c⟩, s1, fun i t e => by simp at e, rfl⟩
    -- behind the call
    have gr : ∀ {Z'}, Gr (fun a => if 0 < cts a ts then none else H a) Z Z' → Gr G Z Z' := fun {Z'} g => ⟨g.sub, fun a o e n => by
      have h1 : H a = some o := st1.gh a o e
      have h2 : ¬ 0 < cts a ts := fun c => by have := (st1.ow a (by rw [cts_append]; omega)).2; rw [this] at e; cases e
      exact g.out a o (by rw [if_neg h2]; exact h1) n⟩
    have back : ∀ {Z' H' : Hp} {ys : List T} {ws : List V}, Gr (fun a => if 0 < cts a ts then none else H a) Z Z' → ys.length = ws.length → S3 X.K (fun a => if 0 < cts a ts then none else H a) Z' H' ys ws [] [] → S3 X.K G Z' H' (ys ++ ks) (ws ++ vs) (outs r as) s := fun {Z' H' ys ws} g hy st2 => by
      have other : ∀ a, 0 < cts a ks + cto a (outs r as) → cts a ts = 0 ∧ (∃ xs, H a = some xs) ∧ H' a = H a ∧ cts a ys = 0 ∧ Z' a = none := fun a c => by
        have h1 := st1.one a
        rw [cts_append] at h1
        have h0 : cts a ts = 0 := by omega
        obtain ⟨xs, e, -⟩ := st1.owned (a := a) (by rw [cts_append]; omega)
        have e2 : (fun a => if 0 < cts a ts then none else H a) a = some xs := by show (if 0 < cts a ts then none else H a) = _; rw [if_neg (by omega)]; exact e
        have e3 := st2.gh a _ e2
        refine ⟨h0, ⟨xs, e⟩, by rw [e3, e], ?_, g.out a _ e2 (st1.ow a (by rw [cts_append]; omega)).1⟩
        by_cases c2 : 0 < cts a ys
        · have := (st2.ow a (by omega)).2
          have e4 : (if 0 < cts a ts then none else H a) = some xs := e2
          have e5 : (if 0 < cts a ts then none else H a) = none := this
          rw [e4] at e5; cases e5
        · omega
      refine ⟨st2.zh, fun a o e => ?_, fun a => ?_, fun a c => ?_, ?_, fun i t e => ?_, st1.len⟩
      · have h1 : H a = some o := st1.gh a o e
        have h2 : ¬ 0 < cts a ts := fun c => by have := (st1.ow a (by rw [cts_append]; omega)).2; rw [this] at e; cases e
        exact st2.gh a o (by show (if 0 < cts a ts then none else H a) = _; rw [if_neg h2]; exact h1)
      · rw [cts_append]
        by_cases c : 0 < cts a ks + cto a (outs r as)
        · obtain ⟨_, _, _, h4, _⟩ := other a c
          have h1 := st1.one a
          rw [cts_append] at h1
          omega
        · have h2 := st2.one a
          simp only [cto] at h2
          omega
      · rw [cts_append] at c
        by_cases c2 : 0 < cts a ks + cto a (outs r as)
        · obtain ⟨h0, _, _, _, h5⟩ := other a c2
          exact ⟨h5, (st1.ow a (by rw [cts_append]; omega)).2⟩
        · have c3 : 0 < cts a ys + cto a ([] : Rho) := by simp only [cto]; omega
          obtain ⟨z1, z2⟩ := st2.ow a c3
          refine ⟨z1, ?_⟩
          cases q : G a with
          | none => rfl
          | some o =>
            have h1 : H a = some o := st1.gh a o q
            have h2 : ¬ 0 < cts a ts := fun c => by have := (st1.ow a (by rw [cts_append]; omega)).2; rw [this] at q; cases q
            have z2' : (if 0 < cts a ts then none else H a) = none := z2
            rw [if_neg h2, h1] at z2'; cases z2'
      · exact rts_app st2.stk (rts_mono g.sub _ _ (fun a c o e => by rw [(other a (by omega)).2.2.1]; exact e) s2)
      · obtain ⟨w, e1, q⟩ := st1.slot i t e
        exact ⟨w, e1, rt_mono g.sub _ _ (fun a c o e' => by rw [(other a (by have := cto_get a (outs r as) i t e; omega)).2.2.1]; exact e') q⟩
    refine ⟨_, Z, ts, _, _, sub, hsp, fun Z' H' x v ts' g st2 q => ?_, fun Z' H' C ts' g st2 q => ?_⟩
    · have hl2 : (x :: ts').length = (v :: us).length := rts_len st2.stk
      have st3 := back g hl2 st2
      have hl3 : ts'.length = us.length := by simpa using hl2
      have st4 : S3 X.K G Z' H' (ts' ++ x :: ks) (us ++ v :: vs) (outs r as) s := S3.mid' hl3 st3
      exact kq Z' H' x v _ (gr g) (S3.ret (Paired.mapP hp fun a b z => z.keep g.sub) hl3 nd (outs_len r as) (fun i hi => outs_get hi) (fun i hi => outs_none hi) st4) q
    · have hl2 : ts'.length = us.length := rts_len st2.stk
      have st3 := back g hl2 st2
      exact ke Z' H' C ts' _ (gr g) (S3.ret (Paired.mapP hp fun a b z => z.keep g.sub) hl2 nd (outs_len r as) (fun i hi => outs_get hi) (fun i hi => outs_none hi) st3) rfl q
  · exact h.elim
/-- f(..) of a def that raises nothing -/
theorem p3_call (F : FnOk X.prog X.w X.K X.mg X.base CX0 k f fd ps (lift X.K sp)) (hr : Room k X.A) (hg : Gl X x) (hm : X.mg x = some (.ref f)) (hk : PySem.W.keepIn X.K (.ref f) = true) (hb : Binds X.K fd ps []) (hu : C3 X (e :: es) u)
    (hdb : (x == ("__debug__" : Str)) = false := by decide) (he : starEach (e :: es) X.env = (false, eval e X.env) :: starEach es X.env := by rfl) (hpl : (backTo pos (starEach es X.env)).any (·.1) = false := by rfl) :
    P3 X (.Call (.Name x p) (e :: es) [] pos) (xCall sp (fun _ _ => False) u) := by
  obtain ⟨te, ea, sa⟩ := hu.ex
  refine ⟨_, pe_call F hr hg hm hk hb .nil pass0 ea hdb he hpl, fun G Z H ks vs r s Q Q3 st ht kk => sa G Z H ks vs r s _ _ st ht fun Z1 H1 as us r1 g1 st1 hp q => ?_⟩
  rw [List.append_nil]
  exact call_run st1 hp q (fun Z' H' x v r' g => kk Z' H' x v r' (g1.trans g)) fun _ _ _ _ _ _ _ _ z => z.elim
end
end L3
namespace L3
open PySem PySem.Spec PyProof.Rows L2
structure Ends3 where
  nx : Rho → Prop
  rt : T → Rho → Prop
  bk : Rho → Prop := fun _ => False
  ct : Rho → Prop := fun _ => False
  ex : Addr → Rho → Prop := fun _ _ => False
abbrev TS3 := Ends3 → Rho → Prop
/-- what is wanted by values is what is wanted -/
structure Imp (K : PySem.W.Frag) (W : WX) (G Z : Hp) (D3 : Ends3) (D : Ends) : Prop where
  nx : ∀ Z' H' r s, Gr G Z Z' → S3 K G Z' H' [] [] r s → D3.nx r → D.nx s H'
  rt : ∀ Z' H' r s x v, Gr G Z Z' → S3 K G Z' H' [x] [v] r s → D3.rt x r → D.rt v H'
  bk : ∀ Z' H' r s, Gr G Z Z' → S3 K G Z' H' [] [] r s → D3.bk r → D.bk s H'
  ct : ∀ Z' H' r s, Gr G Z Z' → S3 K G Z' H' [] [] r s → D3.ct r → D.ct s H'
  ex : ∀ Z' H' C r s, Gr G Z Z' → S3 K G Z' H' [] [] r s → D3.ex C r → W (.ref C) none s H'
theorem Imp.mono {K : PySem.W.Frag} {W : WX} {G Z Z1 : Hp} {D3 : Ends3} {D : Ends} (h : Imp K W G Z D3 D) (g : Gr G Z Z1) : Imp K W G Z1 D3 D :=
  ⟨fun Z' H' r s g' => h.nx Z' H' r s (g.trans g'), fun Z' H' r s x v g' => h.rt Z' H' r s x v (g.trans g'), fun Z' H' r s g' => h.bk Z' H' r s (g.trans g'), fun Z' H' r s g' => h.ct Z' H' r s (g.trans g'), fun Z' H' C r s g' => h.ex Z' H' C r s (g.trans g')⟩
/-- a statement; a block -/
structure M3 (X : Cx) (st : Stmt) (t : TS3) : Prop where
  ex : ∀ W : WX, Takes X W → ∃ te : TS, PS X st te ∧ ∀ (G Z H : Hp) (r : Rho) (s : L2.St) (D : Ends) (D3 : Ends3), S3 X.K G Z H [] [] r s → t D3 r → Imp X.K W G Z D3 D → te D s H
structure B3 (X : Cx) (st : List Stmt) (t : TS3) : Prop where
  ex : ∀ W : WX, Takes X W → ∃ te : TS, PSs X st te ∧ ∀ (G Z H : Hp) (r : Rho) (s : L2.St) (D : Ends) (D3 : Ends3), S3 X.K G Z H [] [] r s → t D3 r → Imp X.K W G Z D3 D → te D s H
section
variable {X : Cx} {st : Stmt} {rest body : List Stmt} {t u : TS3} {e : Expr} {te : TE3} {tt : TT3} {pos : Pos}
def xNext : TS3 := fun D r => D.nx r
def xSeq (t u : TS3) : TS3 := fun D r => t { D with nx := u D } r
theorem b3_nil : B3 X [] xNext := ⟨fun _ _ => ⟨_, pss_nil, fun G Z H r s D D3 st ht im => im.nx Z H r s (Gr.refl _ _) st ht⟩⟩
theorem b3_cons (h1 : M3 X st t) (h2 : B3 X rest u) : B3 X (st :: rest) (xSeq t u) := by
  refine ⟨fun Wx tk => ?_⟩
  obtain ⟨tea, ea, sa⟩ := h1.ex Wx tk
  obtain ⟨teb, eb, sb⟩ := h2.ex Wx tk
  exact ⟨_, pss_cons ea eb, fun G Z H r s D D3 st ht im => sa G Z H r s _ _ st ht ⟨fun Z' H' r' s' g st' q => sb G Z' H' r' s' D D3 st' q (im.mono g), im.rt, im.bk, im.ct, im.ex⟩⟩
theorem b3_one (h1 : M3 X st t) : B3 X [st] t := by
  refine ⟨fun Wx tk => ?_⟩
  obtain ⟨tea, ea, sa⟩ := h1.ex Wx tk
  exact ⟨_, pss_one ea, sa⟩
/-- an expression whose value is dropped -/
def xDrop (te : TE3) : TS3 := fun D r => te r fun _ r' => D.nx r'
theorem m3_expr (h : P3 X e te) (hs : swapsWith e none pos.line X.env = pure false := by rfl) : M3 X (.Expr e pos) (xDrop te) := by
  refine ⟨fun Wx tk => ?_⟩
  obtain ⟨tea, ea, sa⟩ := h.ex
  exact ⟨_, ps_expr ea hs, fun G Z H r s D D3 st ht im => sa G Z H [] [] r s _ _ st ht fun Z' H' x v r' g st' q => im.nx Z' H' r' s g st'.pop q⟩
def xRet (te : TE3) : TS3 := fun D r => te r D.rt
theorem m3_ret (h : P3 X e te) : M3 X (.Return (some e) pos) (xRet te) := by
  refine ⟨fun Wx tk => ?_⟩
  obtain ⟨tea, ea, sa⟩ := h.ex
  exact ⟨_, ps_ret ea, fun G Z H r s D D3 st ht im => sa G Z H [] [] r s _ _ st ht fun Z' H' x v r' g st' q => im.rt Z' H' r' s x v g st' q⟩
def xIfS (c : TT3) (t u : TS3) : TS3 := fun D r => c r fun b r' => (b = true → t D r') ∧ (b = false → u D r')
theorem m3_if {c : Expr} {a b : List Stmt} (hc : T3 X c tt) (ha : B3 X a t) (hb : B3 X b u) : M3 X (.If c a b pos) (xIfS tt t u) := by
  refine ⟨fun Wx tk => ?_⟩
  obtain ⟨tec, ec, sc⟩ := hc.ex
  obtain ⟨tea, ea, sa⟩ := ha.ex Wx tk
  obtain ⟨teb, eb, sb⟩ := hb.ex Wx tk
  refine ⟨_, ps_if ec ea eb, fun G Z H r s D D3 st ht im => sc G Z H [] [] r s _ _ st ht fun Z' H' d r' g st' q => ?_⟩
  cases d with
  | true => exact sa G Z' H' r' s D D3 st' (q.1 rfl) (im.mono g)
  | false => exact sb G Z' H' r' s D D3 st' (q.2 rfl) (im.mono g)
/-- a slot's own list frozen, ahead of a block -/
def xFzS (i : Nat) (t : TS3) : TS3 := fun D r => match r[i]? with | some (some x) => nv x = true ∧ t D (r.set i (some (.d (fz x)))) | _ => False
theorem S3.fzSlot {K : PySem.W.Frag} {G Z H : Hp} {ks : List T} {vs : List V} {r : Rho} {s : L2.St} {i : Nat} {x : T} (h : S3 K G Z H ks vs r s) (e : r[i]? = some (some x)) (n : nv x = true) : ∃ Z', Gr G Z Z' ∧ S3 K G Z' H ks vs (r.set i (some (.d (fz x)))) s := by
  obtain ⟨v, ev, st1⟩ := h.take e
  obtain ⟨Z', g, st2⟩ := st1.freezeG n
  refine ⟨Z', g, ?_⟩
  have hi : i < r.length := (List.getElem?_eq_some_iff.mp e).1
  have st3 := st2.back (i := i) (by rw [List.length_set]; exact hi) ev
  rw [List.set_set] at st3
  exact st3
theorem b3_fz (i : Nat) {sts : List Stmt} (h : B3 X sts t) : B3 X sts (xFzS i t) := by
  refine ⟨fun Wx tk => ?_⟩
  obtain ⟨te, ea, sa⟩ := h.ex Wx tk
  refine ⟨te, ea, fun G Z H r s D D3 st ht im => ?_⟩
  unfold xFzS at ht
  split at ht
  · rename_i x e
    obtain ⟨Z', g, st'⟩ := st.fzSlot e ht.1
    exact sa G Z' H _ s D D3 st' ht.2 (im.mono g)
  · exact ht.elim
end
/-! ### targets -/
abbrev TG3 := T → Rho → (Rho → Prop) → Prop
abbrev TGs3 := List T → Rho → (Rho → Prop) → Prop
structure G3 (X : Cx) (tg : Expr) (js : List Nat) (g : TG3) : Prop where
  ex : ∃ te : TG, PG X tg te ∧ ∀ (G Z H : Hp) (ks : List T) (vs : List V) (r : Rho) (s : L2.St) (x : T) (v : V) (Q : L2.St → Hp → Prop) (Q3 : Rho → Prop), S3 X.K G Z H (x :: ks) (v :: vs) r s → g x r Q3 →
    (∀ Z' H' r' s', Gr G Z Z' → S3 X.K G Z' H' ks vs r' s' → s'.length = s.length → (∀ i, i ∉ js → s'[i]? = s[i]?) → Q3 r' → Q s' H') → te v s H Q
structure Gs3 (X : Cx) (tg : List Expr) (js : List Nat) (g : TGs3) : Prop where
  ex : ∃ te : TGs, PGs X tg te ∧ ∀ (G Z H : Hp) (ks : List T) (vs : List V) (r : Rho) (s : L2.St) (xs : List T) (us : List V) (Q : L2.St → Hp → Prop) (Q3 : Rho → Prop), xs.length = us.length → S3 X.K G Z H (xs ++ ks) (us ++ vs) r s → g xs r Q3 →
    (∀ Z' H' r' s', Gr G Z Z' → S3 X.K G Z' H' ks vs r' s' → s'.length = s.length → (∀ i, i ∉ js → s'[i]? = s[i]?) → Q3 r' → Q s' H') → te us s H Q
section
variable {K : PySem.W.Frag} {G Z H : Hp} {ks : List T} {vs : List V} {r : Rho} {s : L2.St} {t : T} {v : V} {i : Nat}
theorem S3.store (h : S3 K G Z H (t :: ks) (v :: vs) r s) : S3 K G Z H ks vs (r.set i (some t)) (s.set i (some v)) := by
  by_cases hi : i < r.length
  · exact h.put hi
  · have h2 := h.len
    rw [List.set_eq_of_length_le (by omega), List.set_eq_of_length_le (by omega)]
    exact h.pop
end
section
variable {X : Cx} {e o a b c : Expr} {es : List Expr} {g : TG3} {gs : TGs3} {js ls : List Nat} {t ta ti : TE3} {pos : Pos}
def xGName (i : Nat) : TG3 := fun x r Q => Q (r.set i (some x))
theorem g3_name (i : Nat) {x : Str} (hN : X.N.Nodup) (hi : X.N[i]? = some x := by rfl) (hx : Loc X.env.scope x := by first | exact Or.inl rfl | exact Or.inr rfl) (hf : X.fn x = true ∨ X.env.scope.names.lookup x = some .local := by first | exact .inl rfl | exact .inr rfl | assumption) : G3 X (.Name x pos) [i] (xGName i) := by
  refine ⟨_, pg_name hN hi hx hf, fun G Z H ks vs r s x v Q Q3 st hg k => k Z H _ _ (Gr.refl _ _) st.store (by rw [List.length_set]) (fun j hj => ?_) hg⟩
  rw [List.getElem?_set_ne]
  intro q
  exact hj (by rw [q]; exact List.mem_singleton.mpr rfl)
def xGNil : TGs3 := fun xs r Q => match xs with | [] => Q r | _ => False
def xGCons (g : TG3) (gs : TGs3) : TGs3 := fun xs r Q => match xs with | x :: rest => g x r fun r' => gs rest r' Q | [] => False
theorem gs3_nil : Gs3 X [] [] xGNil := by
  refine ⟨_, pgs_nil, fun G Z H ks vs r s xs us Q Q3 hl st hg k => ?_⟩
  cases xs with
  | nil =>
    cases us with
    | nil => exact ⟨rfl, k Z H r s (Gr.refl _ _) st rfl (fun _ _ => rfl) hg⟩
    | cons _ _ => simp at hl
  | cons _ _ => exact hg.elim
theorem gs3_cons (h1 : G3 X e js g) (h2 : Gs3 X es ls gs) (hs : (assignEach (e :: es) X.env).map (·.2) = assign e X.env :: (assignEach es X.env).map (·.2) := by rfl) : Gs3 X (e :: es) (js ++ ls) (xGCons g gs) := by
  obtain ⟨te, ea, sa⟩ := h1.ex
  obtain ⟨tes, eas, sas⟩ := h2.ex
  refine ⟨_, pgs_cons ea eas hs, fun G Z H ks vs r s xs us Q Q3 hl st hg k => ?_⟩
  cases xs with
  | nil => exact hg.elim
  | cons x xs =>
    cases us with
    | nil => simp at hl
    | cons u us =>
      refine ⟨u, us, rfl, sa G Z H (xs ++ ks) (us ++ vs) r s x u _ _ st hg fun Z1 H1 r1 s1 g1 st1 l1 e1 q1 => sas G Z1 H1 ks vs r1 s1 xs us _ _ (by simpa using hl) st1 q1 fun Z2 H2 r2 s2 g2 st2 l2 e2 q2 => k Z2 H2 r2 s2 (g1.trans g2) st2 (l2.trans l1) (fun i hi => ?_) q2⟩
      rw [List.mem_append] at hi
      exact (e2 i fun z => hi (.inr z)).trans (e1 i fun z => hi (.inl z))
def xGTup (n : Nat) (gs : TGs3) : TG3 := fun x r Q => match x with | .d (.tuple l) => l.length = n ∧ gs (l.map T.d) r Q | .tp l => l.length = n ∧ gs l r Q | _ => False
theorem g3_tup {kk n : Nat} (hc : X.calm = true) (h : Gs3 X es js gs) (hn : (assignEach es X.env).length = n := by rfl) (hst : (assignEach es X.env).findIdx? (·.1) = none := by rfl) : G3 X (.Tuple es kk pos) js (xGTup n gs) := by
  obtain ⟨te, ea, sa⟩ := h.ex
  refine ⟨_, pg_tup hc ea hn hst, fun G Z H ks vs r s x v Q Q3 st hg k => ?_⟩
  unfold xGTup at hg
  split at hg
  · rename_i l
    cases st.top with
    | d h =>
      cases h with
      | @tup a0 xs _ hs ha =>
        have hl : l.length = xs.length := dpa_len ha
        have st0 := st.pop
        have st4 : S3 X.K G Z H (l.map T.d ++ ks) (xs ++ vs) r s := ⟨st0.zh, st0.gh, fun a => by rw [cts_append, cts_d]; have := st0.one a; omega, fun a c => st0.ow a (by rw [cts_append, cts_d] at c; omega), rts_app (rts_of_dpa ha) st0.stk, st0.slot, st0.len⟩
        exact ⟨a0, xs, rfl, SqT.of (st.zh _ _ hs), by rw [← hl]; exact hg.1, sa G Z H ks vs r s _ xs Q Q3 (by rw [List.length_map]; exact hl) st4 hg.2 k⟩
  · rename_i l
    cases st.top with
    | @tp a0 _ xs h1 h2 =>
      have hl : l.length = xs.length := rts_len h2
      have st0 := st.pop
      have st4 : S3 X.K G Z H (l ++ ks) (xs ++ vs) r s := ⟨st.zh, st.gh, fun a => by have := st.one a; simp only [cts, ct] at this; rw [cts_append]; omega, fun a c => st.ow a (by rw [cts_append] at c; simp only [cts, ct]; omega), rts_app h2 st0.stk, st.slot, st.len⟩
      exact ⟨a0, xs, rfl, SqT.of (st.zh _ _ h1), by rw [← hl]; exact hg.1, sa G Z H ks vs r s _ xs Q Q3 hl st4 hg.2 k⟩
  · exact hg.elim
/-- a list with another item at a place -/
def setI {α : Type} (l : List α) (i : Int) (x : α) : Option (List α) := if 0 ≤ i then (if i < (l.length : Int) then some (l.set i.toNat x) else none) else if -(l.length : Int) ≤ i then some (l.set (i + l.length).toNat x) else none
theorem setI_of {α : Type} {l l' : List α} {i : Int} {x : α} (h : setI l i x = some l') : ∃ j, ixN l.length i = some j ∧ l' = l.set j x ∧ j < l.length := by
  unfold setI at h
  unfold ixN
  split at h
  · split at h
    · cases h; exact ⟨_, by rw [if_pos (by assumption), if_pos (by assumption)], rfl, by omega⟩
    · cases h
  · split at h
    · cases h; exact ⟨_, by rw [if_neg (by assumption), if_pos (by assumption)], rfl, by omega⟩
    · cases h
/-- x[i] = .., x a list of one's own -/
def xGSub (i : Nat) (ti : TE3) : TG3 := fun x r Q => match r[i]? with
  | some (some (.own _ _)) => ti r fun y r1 => asI y fun j => (match r1[i]? with
    | some (some (.own a l)) => ∃ l', setI l j x = some l' ∧ Q (r1.set i (some (.own a l')))
    | _ => False)
  | _ => False
theorem g3_sub (i : Nat) {x : Str} {p : Pos} (hb : R3 X b ti) (hN : X.N[i]? = some x := by rfl) (hv : Vis X.env.scope x := by first | exact Or.inl rfl | exact Or.inr (Or.inl rfl) | exact Or.inr (Or.inr rfl)) (hd : (x == ("__debug__" : Str)) = false := by decide)
    (hcd : (x == ("__classdict__" : Str)) = false := by decide)
    (ha : ∀ v, assign (.Subscript (.Name x p) b pos) X.env v = (do
      let ov ← holding [v] (eval (.Name x p) X.env)
      let iv ← holding [v, ov] (eval b X.env)
      standAt pos
      holding [v, ov, iv] (setItem ov iv v)
      release [v, ov, iv] []) := by intro _; rfl) : G3 X (.Subscript (.Name x p) b pos) [] (xGSub i ti) := by
  obtain ⟨tei, ei, si⟩ := hb.ex
  refine ⟨_, pg_sub (pe_var hN hv hd hcd) ei set_list ha, fun G Z H ks vs r s x v Q Q3 st hg k => ?_⟩
  unfold xGSub at hg
  split at hg
  · rename_i a0 l0 hr0
    obtain ⟨w, ew, _⟩ := st.slot i _ hr0
    refine ⟨w, ew, si G Z H (x :: ks) (v :: vs) r s _ _ st hg fun Z1 H1 y u r1 g1 st1 pv q0 => ?_⟩
    obtain ⟨j, rfl, q⟩ := asI_of q0
    clear q0
    cases pv.int
    split at q
    · rename_i a l hr
      obtain ⟨l', hl', q⟩ := q
      obtain ⟨n, en, rfl, hn⟩ := setI_of hl'
      obtain ⟨w2, ew2, st2⟩ := st1.take hr
      rw [ew] at ew2
      cases ew2
      have rt := st2.top
      cases rt with
      | @own _ _ xs e1 e2 =>
        have st3 := S3.mid' (l := [x]) (xs := [v]) rfl st2
        have hln := rts_len e2
        have rx : RT X.K Z1 H1 x v := by cases st3.stk with | cons q _ => exact q
        have st4 := st3.write (l' := l.set n x) (xs' := xs.set n v) (rts_set n e2 rx) (fun c => by have := cts_set c l n l[n] x (List.getElem?_eq_getElem hn); omega)
        have st5 := st4.back (i := i) (by rw [List.length_set]; exact (List.getElem?_eq_some_iff.mp hr).1) ew
        rw [List.set_set] at st5
        exact ⟨a, xs, j, n, rfl, rfl, e1, by rw [← hln]; exact en, k _ _ _ s g1 st5 rfl (fun _ _ => rfl) q⟩
    · exact q.elim
  · exact hg.elim
/-- x[i][j] = .., both lists of one's own -/
def xGSub2 (i : Nat) (ti tj : TE3) : TG3 := fun x r Q => match r[i]? with
  | some (some (.own a l)) => ti r fun y r1 => asI y fun m => ∃ b l2, getI l m = some (.own b l2) ∧ r1 = r ∧ tj r fun z r2 => asI z fun n => r2 = r ∧ ∃ l3, setI l2 n x = some l3 ∧ ∃ l', setI l m (.own b l3) = some l' ∧ Q (r.set i (some (.own a l')))
  | _ => False
theorem g3_sub2 (i : Nat) {x : Str} {p p2 : Pos} (ha1 : R3 X a ti) {tj : TE3} (hb : R3 X b tj) (hs : PlainIx a := by intro _ _; rfl) (hN : X.N[i]? = some x := by rfl) (hv : Vis X.env.scope x := by first | exact Or.inl rfl | exact Or.inr (Or.inl rfl) | exact Or.inr (Or.inr rfl)) (hd : (x == ("__debug__" : Str)) = false := by decide)
    (hcd : (x == ("__classdict__" : Str)) = false := by decide)
    (ha : ∀ v, assign (.Subscript (.Subscript (.Name x p) a p2) b pos) X.env v = (do
      let ov ← holding [v] (eval (.Subscript (.Name x p) a p2) X.env)
      let iv ← holding [v, ov] (eval b X.env)
      standAt pos
      holding [v, ov, iv] (setItem ov iv v)
      release [v, ov, iv] []) := by intro _; rfl) : G3 X (.Subscript (.Subscript (.Name x p) a p2) b pos) [] (xGSub2 i ti tj) := by
  obtain ⟨tei, ei, si⟩ := ha1.ex
  obtain ⟨tej, ej, sj⟩ := hb.ex
  refine ⟨_, pg_sub (pe_ix ix_seq (pe_var hN hv hd hcd) ei hs) ej set_list ha, fun G Z H ks vs r s x v Q Q3 st hg k => ?_⟩
  unfold xGSub2 at hg
  split at hg
  · rename_i a0 l0 hr0
    obtain ⟨w, ew, _⟩ := st.slot i _ hr0
    refine ⟨w, ew, si G Z H (x :: ks) (v :: vs) r s _ _ st hg fun Z1 H1 y u r1 g1 st1 pv q0 => ?_⟩
    obtain ⟨m, rfl, q⟩ := asI_of q0
    clear q0
    cases pv.int
    obtain ⟨b0, l2, hg2, rfl, q⟩ := q
    obtain ⟨w2, ew2, rt0⟩ := st1.slot i _ hr0
    rw [ew] at ew2
    cases ew2
    cases rt0 with
    | @own _ _ xs0 e1 e2 =>
      obtain ⟨vb, eb, rb⟩ := rts_at e2 hg2
      cases rb with
      | @own _ _ ys0 f1 f2 =>
        refine .inl ⟨a0, xs0, m, .ref b0, rfl, rfl, SqL.of e1, eb, sj G Z1 H1 (x :: ks) (v :: vs) r1 s _ _ st1 q fun Z2 H2 z u2 r2 g2 st2 pv2 q2 => ?_⟩
        obtain ⟨n, rfl, q3⟩ := asI_of q2
        cases pv2.int
        obtain ⟨rfl, l3, hl3, l', hl', q4⟩ := q3
        obtain ⟨n3, en3, rfl, hn3⟩ := setI_of hl3
        obtain ⟨n4, en4, rfl, hn4⟩ := setI_of hl'
        obtain ⟨j5, en5, hj5⟩ := getI_set l0 m _ hg2
        rw [en4] at en5
        cases en5
        obtain ⟨w3, ew3, st3⟩ := st2.take hr0
        rw [ew] at ew3
        cases ew3
        have st4 := S3.mid' (l := [x]) (xs := [v]) rfl st3
        have rt := st3.top
        cases rt with
        | @own _ _ xs k1 k2 =>
          obtain ⟨vb2, eb2, rb2⟩ := rts_get k2 hj5
          cases rb2 with
          | @own _ _ ys m1 m2 =>
            have rx : RT X.K Z2 H2 x v := by cases st4.stk with | cons q _ => exact q
            have hln := rts_len m2
            have st5 := st4.write2 (i := n4) (m := l2) (m' := l2.set n3 x) (ys' := ys.set n3 v) hj5 (rts_set n3 m2 rx) (fun c => by have := cts_set c l2 n3 l2[n3] x (List.getElem?_eq_getElem hn3); omega)
            have st6 := st5.back (i := i) (by rw [List.length_set]; exact (List.getElem?_eq_some_iff.mp hr0).1) ew
            rw [List.set_set] at st6
            exact ⟨b0, ys, n, n3, rfl, rfl, m1, by rw [← hln]; exact en3, k _ _ _ s (g1.trans g2) st6 rfl (fun _ _ => rfl) q4⟩
  · exact hg.elim
/-! ### assignments -/
def xAsg (t : TE3) (g : TG3) : TS3 := fun D r => t r fun x r' => g x r' D.nx
theorem m3_asg {tg : Expr} (he : P3 X e t) (hg : G3 X tg js g) (hs : swapsWithSole [tg] e pos.line X.env = pure false := by rfl) (hw : swappedStores [tg] e X.env = pure none := by rfl)
    (h1 : (assignEach [tg] X.env).map (·.2) = [assign tg X.env] := by rfl) : M3 X (.Assign [tg] e pos) (xAsg t g) := by
  refine ⟨fun Wx tk => ?_⟩
  obtain ⟨te, ee, se⟩ := he.ex
  obtain ⟨tg', eg, sg⟩ := hg.ex
  exact ⟨_, ps_asg ee eg hs hw h1, fun G Z H r s D D3 st ht im => se G Z H [] [] r s _ _ st ht fun Z1 H1 x v r1 g1 st1 q => sg G Z1 H1 [] [] r1 s x v _ _ st1 q fun Z2 H2 r2 s2 g2 st2 _ _ q2 => im.nx Z2 H2 r2 s2 (g1.trans g2) st2 q2⟩
theorem m3_set (i : Nat) {x : Str} {p' : Pos} (he : P3 X e t) (hN : X.N.Nodup) (hi : X.N[i]? = some x := by rfl) (hx : Loc X.env.scope x := by first | exact Or.inl rfl | exact Or.inr rfl) (hs : swapsWith e (some (.Name x p')) pos.line X.env = pure false := by rfl) (hf : X.fn x = true ∨ X.env.scope.names.lookup x = some .local := by first | exact .inl rfl | exact .inr rfl | assumption) :
    M3 X (.Assign [.Name x p'] e pos) (xAsg t (xGName i)) := by
  refine ⟨fun Wx tk => ?_⟩
  obtain ⟨te, ee, se⟩ := he.ex
  exact ⟨_, ps_set hN hi hx ee hs hf, fun G Z H r s D D3 st ht im => se G Z H [] [] r s _ _ st ht fun Z1 H1 x v r1 g1 st1 q => im.nx Z1 H1 _ _ g1 st1.store q⟩
/-- a, b = e1, e2 (two names) -/
def xPar (i j : Nat) (t : TA3) : TS3 := fun D r => t r fun xs r' => match xs with | [x, y] => D.nx ((r'.set i (some x)).set j (some y)) | _ => False
theorem m3_par (i j : Nat) {x y : Str} {px py pt : Pos} {kt k2 pt2} {u : TA3} (hc : X.calm = true) (ha : PA3 X [a, b] u) (hN : X.N.Nodup) (hi : X.N[i]? = some x := by rfl) (hj : X.N[j]? = some y := by rfl) (hij : i ≠ j := by decide) (hx : X.env.scope.names.lookup x = some .local := by rfl) (hy : X.env.scope.names.lookup y = some .local := by rfl)
    (hw : swappedStores [.Tuple [.Name x px, .Name y py] kt pt] (.Tuple [a, b] k2 pt2) X.env = pure (some [x, y]) := by rfl)
    (hs : swapsWithSole [.Tuple [.Name x px, .Name y py] kt pt] (.Tuple [a, b] k2 pt2) pos.line X.env = pure false := by rfl) :
    M3 X (.Assign [.Tuple [.Name x px, .Name y py] kt pt] (.Tuple [a, b] k2 pt2) pos) (xPar i j u) := by
  refine ⟨fun Wx tk => ?_⟩
  obtain ⟨te, ee, se⟩ := ha.ex
  refine ⟨_, ps_par hc hN hi hj hij hx hy ee hw hs, fun G Z H r s D D3 st ht im => se G Z H [] [] r s _ _ st ht fun Z1 H1 xs us r1 g1 hl st1 q => ?_⟩
  split at q
  · rename_i tx ty
    match us, hl with
    | [u1, u2], _ =>
      refine ⟨u1, u2, rfl, im.nx Z1 H1 _ _ g1 ?_ q⟩
      have st2 := st1.store (i := i)
      exact st2.store (i := j)
  · exact q.elim
end
/-! ### while, for -/
section
variable {X : Cx} {e iter tg : Expr} {body : List Stmt} {tt : TT3} {tb : TS3} {g : TG3} {js : List Nat} {t : TE3} {pos : Pos}
def xWhile (c : TT3) (tb : TS3) : TS3 := fun D r => ∃ W : Nat → Rho → Prop, (∃ m, W m r) ∧ ∀ m r, W m r → c r fun b r1 => (b = true → tb { D with nx := fun r' => ∃ m', m' < m ∧ W m' r', ct := fun r' => ∃ m', m' < m ∧ W m' r', bk := D.nx } r1) ∧ (b = false → D.nx r1)
theorem m3_while {c : Expr} (hp : PassesOwn (model X.prog X.w) X.A X.env X.xe) (hc : T3 X c tt) (hb : B3 X body tb) : M3 X (.While c body [] pos) (xWhile tt tb) := by
  refine ⟨fun Wx tk => ?_⟩
  obtain ⟨tec, ec, sc⟩ := hc.ex
  obtain ⟨teb, eb, sb⟩ := hb.ex Wx tk
  refine ⟨_, ps_while hp ec eb, fun G Z H r s D D3 st ht im => ?_⟩
  obtain ⟨W, ⟨m0, w0⟩, turn⟩ := ht
  refine ⟨fun m s H => ∃ Z' r, Gr G Z Z' ∧ S3 X.K G Z' H [] [] r s ∧ W m r, ⟨m0, Z, r, Gr.refl _ _, st, w0⟩, ?_⟩
  rintro m s1 H1 ⟨Z1, r1, g1, st1, w1⟩
  refine sc G Z1 H1 [] [] r1 s1 _ _ st1 (turn m r1 w1) fun Z2 H2 b r2 g2 st2 q => ?_
  cases b with
  | false => exact im.nx Z2 H2 r2 s1 (g1.trans g2) st2 (q.2 rfl)
  | true =>
    rw [if_pos rfl]
    refine ⟨fun s' H' => ∃ m', m' < m ∧ ∃ Z' r, Gr G Z Z' ∧ S3 X.K G Z' H' [] [] r s' ∧ W m' r, fun s' H' h => h, ?_⟩
    refine sb G Z2 H2 r2 s1 _ _ st2 (q.1 rfl) ⟨fun Z3 H3 r3 s3 g3 st3 q3 => ?_, fun Z3 H3 r3 s3 x v g3 st3 q3 => im.rt Z3 H3 r3 s3 x v ((g1.trans g2).trans g3) st3 q3, fun Z3 H3 r3 s3 g3 st3 q3 => im.nx Z3 H3 r3 s3 ((g1.trans g2).trans g3) st3 q3, fun Z3 H3 r3 s3 g3 st3 q3 => ?_, fun Z3 H3 C r3 s3 g3 st3 q3 => im.ex Z3 H3 C r3 s3 ((g1.trans g2).trans g3) st3 q3⟩
    · obtain ⟨m', hm, w'⟩ := q3
      exact ⟨m', hm, Z3, r3, (g1.trans g2).trans g3, st3, w'⟩
    · obtain ⟨m', hm, w'⟩ := q3
      exact ⟨m', hm, Z3, r3, (g1.trans g2).trans g3, st3, w'⟩
/-- what an iterator yields -/
def Yld (K : PySem.W.Frag) (Z H : Hp) (x : PyData) (v : V) (H' : Hp) : Prop := (H' = H ∧ Dq K Z v x) ∨ ∃ p o, H p = none ∧ H' = upd H p o ∧ Dq K (upd Z p o) v x
def Walks (K : PySem.W.Frag) (Z : Hp) (J : It) (items : List PyData) : Prop := ∀ Z' H i, Sub Z Z' → Sub Z' H →
  (∀ x, items[i]? = some x → J.go i H ∧ ∀ v H', J.yld i H v H' → Yld K Z' H x v H') ∧ (items.length ≤ i → J.stop i H)
abbrev TI3 := Rho → (List PyData → Rho → Prop) → Prop
structure I3 (X : Cx) (tg iter : Expr) (w : TI3) : Prop where
  ex : ∃ wi : TI, PI X tg iter wi ∧ ∀ (G Z H : Hp) (ks : List T) (vs : List V) (r : Rho) (s : L2.St) (R : It → Hp → Prop) (Q3 : List PyData → Rho → Prop), S3 X.K G Z H ks vs r s → w r Q3 →
    (∀ Z' H' J items r', Gr G Z Z' → S3 X.K G Z' H' ks vs r' s → Walks X.K Z' J items → Q3 items r' → R J H') → wi s H R
def xFor (w : TI3) (g : TG3) (tb : TS3) : TS3 := fun D r => w r fun items r1 => ∃ W : Nat → Rho → Prop, W 0 r1 ∧ (∀ i x r, items[i]? = some x → W i r → g (.d x) r fun r2 => tb { D with nx := W (i + 1), ct := W (i + 1), bk := D.nx } r2) ∧ ∀ r, W items.length r → D.nx r
theorem Yld.st {K : PySem.W.Frag} {G Z H H' : Hp} {ks : List T} {vs : List V} {r : Rho} {s : L2.St} {x : PyData} {v : V} (y : Yld K Z H x v H') (st : S3 K G Z H ks vs r s) : ∃ Z', Gr G Z Z' ∧ S3 K G Z' H' (.d x :: ks) (v :: vs) r s := by
  rcases y with ⟨rfl, d⟩ | ⟨p, o, hp, rfl, d⟩
  · exact ⟨Z, Gr.refl _ _, st.pushD d⟩
  · obtain ⟨g, st2⟩ := st.laidG (o := o) hp
    exact ⟨_, g, st2.pushD d⟩
theorem m3_for {w : TI3} (hp : PassesOwn (model X.prog X.w) X.A X.env X.xe) (hc : X.calm = true) (hi : I3 X tg iter w) (hg : G3 X tg js g) (hb : B3 X body tb) (hs : ∀ x, foldedSetIterable iter X.env x = pure x := by intro _; rfl) : M3 X (.For tg iter body [] pos) (xFor w g tb) := by
  refine ⟨fun Wx tk => ?_⟩
  obtain ⟨wi, ei, si⟩ := hi.ex
  obtain ⟨tg', eg, sg⟩ := hg.ex
  obtain ⟨teb, eb, sb⟩ := hb.ex Wx tk
  refine ⟨_, ps_for hp hc ei eg eb hs, fun G Z H r s D D3 st ht im => si G Z H [] [] r s _ _ st ht fun Z0 H0 J items r0 g0 st0 wk q => ?_⟩
  obtain ⟨W, w0, turn, done⟩ := q
  refine ⟨fun i m s H => m = items.length - i ∧ i ≤ items.length ∧ ∃ Z' r, Gr G Z0 Z' ∧ S3 X.K G Z' H [] [] r s ∧ W i r, ⟨_, rfl, Nat.zero_le _, Z0, r0, Gr.refl _ _, st0, w0⟩, ?_⟩
  rintro i m s1 H1 ⟨rfl, hi, Z1, r1, g1, st1, w1⟩
  by_cases hlt : i < items.length
  · obtain ⟨go, y⟩ := (wk Z1 H1 i g1.sub st1.zh).1 items[i] (List.getElem?_eq_getElem hlt)
    refine .inr ⟨go, fun s' H' => ∃ Z' r, Gr G Z0 Z' ∧ S3 X.K G Z' H' [] [] r s' ∧ W (i + 1) r, fun s' H' h => ⟨items.length - (i + 1), by omega, rfl, hlt, h⟩, fun x H' yx => ?_⟩
    obtain ⟨Z2, g2, st2⟩ := (y x H' yx).st st1
    refine sg G Z2 H' [] [] r1 s1 _ x _ _ st2 (turn i _ r1 (List.getElem?_eq_getElem hlt) w1) fun Z3 H3 r3 s3 g3 st3 _ _ q3 => ?_
    have gg := (g1.trans g2).trans g3
    exact sb G Z3 H3 r3 s3 _ _ st3 q3 ⟨fun Z4 H4 r4 s4 g4 st4 q4 => ⟨Z4, r4, gg.trans g4, st4, q4⟩, fun Z4 H4 r4 s4 x v g4 st4 q4 => im.rt Z4 H4 r4 s4 x v (g0.trans (gg.trans g4)) st4 q4,
      fun Z4 H4 r4 s4 g4 st4 q4 => im.nx Z4 H4 r4 s4 (g0.trans (gg.trans g4)) st4 q4, fun Z4 H4 r4 s4 g4 st4 q4 => ⟨Z4, r4, gg.trans g4, st4, q4⟩, fun Z4 H4 C r4 s4 g4 st4 q4 => im.ex Z4 H4 C r4 s4 (g0.trans (gg.trans g4)) st4 q4⟩
  · have e : i = items.length := by omega
    subst e
    exact .inl ⟨(wk Z1 H1 _ g1.sub st1.zh).2 (Nat.le_refl _), im.nx Z1 H1 r1 s1 (g0.trans g1) st1 (done r1 w1)⟩
/-! what is walked -/
end
end L3
namespace L3
open PySem PySem.Spec PyProof.Rows L2
/-! ### the weakest reading -/
def lowP (K : PySem.W.Frag) (t : TE3) : TE := fun s H Q => ∃ (G Z : Hp) (ks : List T) (vs : List V) (r : Rho) (Q3 : T → Rho → Prop), S3 K G Z H ks vs r s ∧ t r Q3 ∧ ∀ Z' H' x v r', Gr G Z Z' → S3 K G Z' H' (x :: ks) (v :: vs) r' s → Q3 x r' → Q v H'
def lowT (K : PySem.W.Frag) (t : TT3) : TT := fun s H Q => ∃ (G Z : Hp) (ks : List T) (vs : List V) (r : Rho) (Q3 : Bool → Rho → Prop), S3 K G Z H ks vs r s ∧ t r Q3 ∧ ∀ Z' H' b r', Gr G Z Z' → S3 K G Z' H' ks vs r' s → Q3 b r' → Q b H'
def lowG (K : PySem.W.Frag) (js : List Nat) (g : TG3) : TG := fun v s H Q => ∃ (G Z : Hp) (ks : List T) (vs : List V) (r : Rho) (x : T) (Q3 : Rho → Prop), S3 K G Z H (x :: ks) (v :: vs) r s ∧ g x r Q3 ∧
  ∀ Z' H' r' s', Gr G Z Z' → S3 K G Z' H' ks vs r' s' → s'.length = s.length → (∀ i, i ∉ js → s'[i]? = s[i]?) → Q3 r' → Q s' H'
section
variable {X : Cx} {e : Expr} {t : TE3} {tt : TT3} {g : TG3} {js : List Nat}
theorem P3.low (h : P3 X e t) : PE X e (lowP X.K t) := by
  obtain ⟨te, he, hs⟩ := h.ex
  exact ⟨fun pins s σ H Q I ⟨G, Z, ks, vs, r, Q3, st, ht, k⟩ => he.run pins s σ H Q I (hs G Z H ks vs r σ Q Q3 st ht k)⟩
theorem T3.low (h : T3 X e tt) : PT X e (lowT X.K tt) := by
  obtain ⟨te, he, hs⟩ := h.ex
  exact ⟨fun pins s σ H Q I ⟨G, Z, ks, vs, r, Q3, st, ht, k⟩ => he.run pins s σ H Q I (hs G Z H ks vs r σ Q Q3 st ht k)⟩
theorem G3.low (h : G3 X e js g) : PG X e (lowG X.K js g) := by
  obtain ⟨te, he, hs⟩ := h.ex
  exact ⟨fun pins s σ H v u Q I rv ⟨G, Z, ks, vs, r, x, Q3, st, ht, k⟩ => he.run pins s σ H v u Q I rv (hs G Z H ks vs r σ x v Q Q3 st ht k)⟩
end
/-- the conditions of a comprehension -/
structure Ts3 (X : Cx) (ifs : List Expr) (t : TT3) : Prop where
  pt : PTs X ifs (lowT X.K t)
def xYes : TT3 := fun r Q => Q true r
theorem ts3_nil {X : Cx} : Ts3 X [] xYes := ⟨⟨fun pins s σ H Q I ⟨G, Z, ks, vs, r, Q3, st, ht, k⟩ => pts_nil.run pins s σ H Q I (k Z H true r (Gr.refl _ _) st ht)⟩⟩
theorem ts3_one {X : Cx} {c : Expr} {t : TT3} (h : T3 X c t) : Ts3 X [c] t := ⟨pts_one h.low⟩
/-! ### comprehensions -/
def wp (r : Rho) : List Nat → Rho
  | [] => r
  | j :: js => (wp r js).set j none
theorem S3.wipes {K : PySem.W.Frag} {G Z H : Hp} {ks : List T} {vs : List V} {r : Rho} {s : L2.St} (h : S3 K G Z H ks vs r s) : ∀ js, S3 K G Z H ks vs (wp r js) (L2.wipe s js)
  | [] => h
  | j :: js => (h.wipes js).wipe
theorem S3.unwipe {K : PySem.W.Frag} {G Z H : Hp} {ks : List T} {vs : List V} {r : Rho} {s : L2.St} {js : List Nat} (h : S3 K G Z H ks vs r (L2.wipe s js)) : S3 K G Z H ks vs r s :=
  ⟨h.zh, h.gh, h.one, h.ow, h.stk, fun i t e => by
    obtain ⟨v, ev, q⟩ := h.slot i t e
    exact ⟨v, (wipe_some ev).1, q⟩, h.len.trans (wipe_length s js)⟩
theorem wipe_same {s s' : L2.St} : ∀ {js : List Nat}, s'.length = s.length → (∀ i, i ∉ js → s'[i]? = s[i]?) → L2.wipe s' js = L2.wipe s js := by
  intro js hl h
  refine List.ext_getElem? fun i => ?_
  by_cases hi : i ∈ js
  · have z : ∀ (s : L2.St) (js : List Nat), i ∈ js → (L2.wipe s js)[i]? = if i < s.length then some none else none := by
      intro s js
      induction js with
      | nil => intro h; simp at h
      | cons j js ih =>
        intro h
        show ((L2.wipe s js).set j none)[i]? = _
        by_cases e : j = i
        · subst e
          by_cases hl : j < s.length
          · rw [List.getElem?_set_self (by rw [wipe_length]; exact hl), if_pos hl]
          · rw [List.getElem?_eq_none (by rw [List.length_set, wipe_length]; omega), if_neg hl]
        · rw [List.getElem?_set_ne e]
          rcases List.mem_cons.mp h with q | q
          · exact absurd q.symm e
          · exact ih q
    rw [z s' js hi, z s js hi, hl]
  · rw [wipe_out hi, wipe_out hi]
    exact h i hi
def xLc (w : TI3) (g : TG3) (tt : TT3) (te : TE3) (js : List Nat) : TE3 := fun r Q => w r fun items r1 => ∀ p, ∃ W : Nat → List T → Rho → Prop, W 0 [] (wp r1 js) ∧
  (∀ i x acc r, items[i]? = some x → W i acc r → g (.d x) r fun r2 => tt r2 fun b r3 => (b = true → te r3 fun y r4 => acc.length < sizeLine ∧ W (i + 1) (acc ++ [y]) (wp r4 js)) ∧ (b = false → W (i + 1) acc (wp r3 js))) ∧
  ∀ acc r, W items.length acc r → Q (.own p acc) r
section
variable {X : Cx} {elt tg iter : Expr} {ifs : List Expr} {scope : Scope} {own : List (Str × Nat)} {pos : Pos} {w : TI3} {g : TG3} {tt : TT3} {te : TE3} {js : List Nat}
theorem lc_run {wi : TI} (si : ∀ (G Z H : Hp) (ks : List T) (vs : List V) (r : Rho) (s : L2.St) (R : It → Hp → Prop) (Q3 : List PyData → Rho → Prop), S3 X.K G Z H ks vs r s → w r Q3 →
    (∀ Z' H' J items r', Gr G Z Z' → S3 X.K G Z' H' ks vs r' s → Walks X.K Z' J items → Q3 items r' → R J H') → wi s H R) (hj : ∀ j ∈ js, j ∈ own.map (·.2)) {G Z H : Hp} {ks : List T} {vs : List V} {r : Rho} {s : L2.St} {Q : VK} {Q3 : T → Rho → Prop} (st : S3 X.K G Z H ks vs r s) (ht : xLc w g tt te (own.map (·.2)) r Q3)
    (k : ∀ Z' H' x v r', Gr G Z Z' → S3 X.K G Z' H' (x :: ks) (v :: vs) r' s → Q3 x r' → Q v H') : tLc wi (lowG X.K js g) (lowT X.K tt) (lowP X.K te) (own.map (·.2)) s H Q := by
  refine si G Z H ks vs r s _ _ st ht fun Z0 H0 J items r0 g0 st0 wk q D hD => ?_
  obtain ⟨W, w0, turn, done⟩ := q D
  have stw : S3 X.K G Z0 H0 ks vs (wp r0 (own.map (·.2))) (L2.wipe s (own.map (·.2))) := st0.wipes _
  have st1 : S3 X.K G Z0 (upd H0 D (.lst [])) (.own D [] :: ks) (.ref D :: vs) (wp r0 (own.map (·.2))) (L2.wipe s (own.map (·.2))) := S3.mkOwn (l := []) (xs := []) stw rfl hD
  refine ⟨fun i m H => m = items.length - i ∧ i ≤ items.length ∧ ∃ Z' r acc, Gr G Z0 Z' ∧ S3 X.K G Z' H (.own D acc :: ks) (.ref D :: vs) r (L2.wipe s (own.map (·.2))) ∧ W i acc r, ⟨_, rfl, Nat.zero_le _, Z0, _, [], Gr.refl _ _, st1, w0⟩, ?_⟩
  rintro i m H1 ⟨rfl, hi, Z1, r1, acc, g1, st1, w1⟩
  by_cases hlt : i < items.length
  · obtain ⟨go, y⟩ := (wk Z1 H1 i g1.sub st1.zh).1 items[i] (List.getElem?_eq_getElem hlt)
    refine .inr ⟨go, fun H' => ∃ Z' r acc, Gr G Z0 Z' ∧ S3 X.K G Z' H' (.own D acc :: ks) (.ref D :: vs) r (L2.wipe s (own.map (·.2))) ∧ W (i + 1) acc r, fun H' h => ⟨items.length - (i + 1), by omega, rfl, hlt, h⟩, fun x H' yx => ?_⟩
    obtain ⟨Z2, g2, st2⟩ := (y x H' yx).st st1
    refine ⟨G, Z2, _, _, r1, _, _, st2, turn i _ acc r1 (List.getElem?_eq_getElem hlt) w1, fun Z3 H3 r3 s3 g3 st3 l3 e3 q3 => ?_⟩
    have ew : wipe s3 (own.map (·.2)) = wipe s (own.map (·.2)) := by
      have : wipe s3 (own.map (·.2)) = wipe (L2.wipe s (own.map (·.2))) (own.map (·.2)) := wipe_same l3 fun i hi => e3 i fun z => hi (hj i z)
      rw [this]
      exact wipe_same (wipe_length _ _) fun i hi => wipe_out hi
    have gg := (g1.trans g2).trans g3
    refine ⟨ew, G, Z3, _, _, r3, _, st3, q3, fun Z4 H4 b r4 g4 st4 q4 => ?_⟩
    cases b with
    | false =>
      have q5 : W (i + 1) acc (wp r4 (own.map (·.2))) := q4.2 rfl
      have st5 := st4.wipes (own.map (·.2))
      rw [ew] at st5
      exact ⟨Z4, _, acc, gg.trans g4, st5, q5⟩
    | true =>
      refine ⟨G, Z4, _, _, r4, _, st4, q4.1 rfl, fun Z5 H5 y v r5 g5 st5 q5 => ?_⟩
      obtain ⟨xs, e1, e2, e3', e4, _⟩ := st5.ownAt
      have st6 := st5.write (l' := acc ++ [y]) (xs' := xs ++ [v]) (rts_snoc e2 e3') (fun b => by rw [cts_append]; simp only [cts]; omega)
      have st7 := st6.wipes (own.map (·.2))
      rw [ew] at st7
      exact ⟨xs, e1, by rw [← rts_len e2]; exact q5.1, Z5, _, _, (gg.trans g4).trans g5, st7, q5.2⟩
  · have e : i = items.length := by omega
    subst e
    exact .inl ⟨(wk Z1 H1 _ g1.sub st1.zh).2 (Nat.le_refl _), k Z1 H1 _ _ r1 (g0.trans g1) st1.unwipe (done acc r1 w1)⟩
theorem p3_lc (hc : X.calm = true) (hN : X.N.Nodup) (hi : I3 X tg iter w) (ok : BlkOk X.N X.env.scope scope own) (hj : ∀ j ∈ js, j ∈ own.map (·.2))
    (hg : ∀ (s : Shared) (H : Hp) (C : Addr) (cl : List (Str × Addr)) (fp : List Addr), G3 (X.blk s H scope (compEnvC scope cl C X.env) fp) tg js g) (ht : ∀ (s : Shared) (H : Hp) (C : Addr) (cl : List (Str × Addr)) (fp : List Addr), Ts3 (X.blk s H scope (compEnvC scope cl C X.env) fp) ifs tt)
    (he : ∀ (s : Shared) (H : Hp) (C : Addr) (cl : List (Str × Addr)) (fp : List Addr), P3 (X.blk s H scope (compEnvC scope cl C X.env) fp) elt te) (hs : ∀ x, foldedSetIterable iter X.env x = pure x := by intro _; rfl) :
    P3 X (.ListComp elt [⟨tg, iter, ifs, 0⟩] scope pos) (xLc w g tt te (own.map (·.2))) := by
  obtain ⟨wi, ei, si⟩ := hi.ex
  exact ⟨_, pe_lc hc hN ei ok (fun s H C cl fp => (hg s H C cl fp).low) (fun s H C cl fp => (ht s H C cl fp).pt) (fun s H C cl fp => (he s H C cl fp).low) hs, fun G Z H ks vs r s Q Q3 st h k => lc_run si hj st h k⟩
/-- name = [..] on one line, the name a local -/
theorem m3_setLc (i : Nat) {y : Str} {py spos : Pos} (hc : X.calm = true) (hN : X.N.Nodup) (hi : I3 X tg iter w) (ok : BlkOk X.N X.env.scope scope own) (hj : ∀ j ∈ js, j ∈ own.map (·.2))
    (hg : ∀ (s : Shared) (H : Hp) (C : Addr) (cl : List (Str × Addr)) (fp : List Addr), G3 (X.blk s H scope (compEnvC scope cl C X.env) fp) tg js g) (ht : ∀ (s : Shared) (H : Hp) (C : Addr) (cl : List (Str × Addr)) (fp : List Addr), Ts3 (X.blk s H scope (compEnvC scope cl C X.env) fp) ifs tt)
    (he : ∀ (s : Shared) (H : Hp) (C : Addr) (cl : List (Str × Addr)) (fp : List Addr), P3 (X.blk s H scope (compEnvC scope cl C X.env) fp) elt te) (hy : X.N[i]? = some y := by rfl) (hyl : X.env.scope.names.lookup y = some .local := by rfl)
    (hsw : swapsWith (.ListComp elt [⟨tg, iter, ifs, 0⟩] scope pos) (some (.Name y py)) spos.line X.env = pure true := by exact sw_true rfl rfl rfl (by decide +kernel)) (hs : ∀ x, foldedSetIterable iter X.env x = pure x := by intro _; rfl) :
    M3 X (.Assign [.Name y py] (.ListComp elt [⟨tg, iter, ifs, 0⟩] scope pos) spos) (xAsg (xLc w g tt te (own.map (·.2))) (xGName i)) := by
  refine ⟨fun W tk => ?_⟩
  obtain ⟨wi, ei, si⟩ := hi.ex
  exact ⟨_, ps_setLc hc hN hy hyl hsw ei ok (fun s H C cl fp => (hg s H C cl fp).low) (fun s H C cl fp => (ht s H C cl fp).pt) (fun s H C cl fp => (he s H C cl fp).low) hs, fun G Z H r s D D3 st h im =>
    lc_run si hj st h fun Z1 H1 x v r1 g1 st1 q => im.nx Z1 H1 _ _ g1 st1.store q⟩
end
/-! ### what is walked -/
theorem walks_L {K : PySem.W.Frag} {Z : Hp} {a : Addr} {xs : List V} {l : List PyData} (hs : SqL K Z a xs) (hd : DqAll K Z xs l) : Walks K Z (Itl K a) l := fun Z' H i z zh => by
  have hs2 : SqL K H a xs := zh.L (z.L hs)
  refine ⟨fun x hx => ?_, fun hi => ⟨xs, hs2, by rw [← dpa_len hd]; exact hi⟩⟩
  obtain ⟨v, ev, dv⟩ := dpa_get hd hx
  refine ⟨⟨xs, v, hs2, ev⟩, fun u H' y => .inl ⟨y.1, ?_⟩⟩
  have := y.2 xs hs2
  rw [ev] at this
  cases this
  exact dp_mono z x v dv
theorem walks_T {K : PySem.W.Frag} {Z : Hp} {a : Addr} {xs : List V} {l : List PyData} (hs : SqT K Z a xs) (hd : DqAll K Z xs l) : Walks K Z (Itt K a) l := fun Z' H i z zh => by
  have hs2 : SqT K H a xs := zh.T (z.T hs)
  refine ⟨fun x hx => ?_, fun hi => ⟨xs, hs2, by rw [← dpa_len hd]; exact hi⟩⟩
  obtain ⟨v, ev, dv⟩ := dpa_get hd hx
  refine ⟨⟨xs, v, hs2, ev⟩, fun u H' y => .inl ⟨y.1, ?_⟩⟩
  have := y.2 xs hs2
  rw [ev] at this
  cases this
  exact dp_mono z x v dv
/-- lo, lo + 1, .., n of them -/
def rangeI (lo : Int) (n : Nat) : List PyData := (List.range n).map fun i => PyData.int (lo + (i : Nat))
theorem rangeI_len (lo : Int) (n : Nat) : (rangeI lo n).length = n := by unfold rangeI; rw [List.length_map, List.length_range]
theorem rangeI_get {lo : Int} {n i : Nat} {x : PyData} (h : (rangeI lo n)[i]? = some x) : i < n ∧ x = .int (lo + (i : Nat)) := by
  unfold rangeI at h
  rw [List.getElem?_map] at h
  by_cases hi : i < n
  · rw [List.getElem?_range hi] at h
    exact ⟨hi, (Option.some.inj h).symm⟩
  · rw [List.getElem?_eq_none (by rw [List.length_range]; omega)] at h
    cases h
theorem walks_R {K : PySem.W.Frag} {Z : Hp} {lo : Int} {n : Nat} : Walks K Z (Itr lo n) (rangeI lo n) := fun Z' H i z zh => by
  refine ⟨fun x hx => ?_, fun hi => by rw [rangeI_len] at hi; exact hi⟩
  obtain ⟨h1, rfl⟩ := rangeI_get hx
  exact ⟨h1, fun v H' y => .inl ⟨y.1, by rw [y.2]; exact .int _⟩⟩
theorem walks_S {K : PySem.W.Frag} {Z : Hp} {x : Str} : Walks K Z (Its x) (x.cps.toList.map fun c => PyData.str ⟨#[c]⟩) := fun Z' H i z zh => by
  refine ⟨fun y hy => ?_, fun hi => by rw [List.length_map, Array.length_toList] at hi; exact hi⟩
  rw [List.getElem?_map] at hy
  cases hc : x.cps.toList[i]? with
  | none => rw [hc] at hy; cases hy
  | some c =>
    rw [hc] at hy
    cases hy
    refine ⟨?_, fun v H' ⟨e, c', h1, h2⟩ => .inl ⟨e, ?_⟩⟩
    · have := (List.getElem?_eq_some_iff.mp hc).1
      show i < x.cps.size
      simpa using this
    · have : x.cps[i]? = some c := by rw [← Array.getElem?_toList]; exact hc
      rw [this] at h1
      cases h1
      rw [h2]
      exact .str _
section
variable {X : Cx} {e a b c : Expr} {tg : Expr} {t ta tb tc : TE3} {pos p : Pos}
/-- over a list or a tuple -/
def iSeq (K : PySem.W.Frag) (tl : TE) : TI := fun σ H R => tl σ H fun x H1 => ∃ a, x = .ref a ∧ (((∃ xs, SqL K H1 a xs) ∧ R (Itl K a) H1) ∨ ((∃ xs, SqT K H1 a xs) ∧ R (Itt K a) H1))
theorem pi_seq {l : Expr} {tl : TE} (hl : PE X l tl) : PI X tg l (iSeq X.K tl) := by
  refine ⟨fun pins s σ H R I h => ?_⟩
  refine thn (hl.run pins s σ H _ I h) fun v s1 ⟨x, H1, I1, r1, q1⟩ => ?_
  obtain ⟨a, e, ⟨⟨xs, hq⟩, q⟩ | ⟨⟨xs, hq⟩, q⟩⟩ := q1
  · subst e
    cases r1
    obtain ⟨its, rv, p, hz⟩ := I1.list hq
    refine wpAny_pyIter_list p.isList ?_
    refine ⟨s1.heap.objs.size, [s1.heap.objs.size], _, _, H1, rfl, I1.kept (t' := s1.toks) fun b o e => Heap.get?_push_of_some _ e, turn_list a _, ⟨_, Heap.get?_push_size _ rfl, rfl, rfl⟩, fun b hb => ?_, q⟩
    have e : b = s1.heap.objs.size := by simpa using hb
    subst e
    exact I1.fpOk (Nat.le_refl _) (I1.hok.fresh (Nat.le_refl _))
  · subst e
    cases r1
    obtain ⟨its, rv, p, hz⟩ := I1.tuple hq
    refine wpAny_pyIter_tuple (show s1.heap.IsTuple a its.toArray from p) ?_
    refine ⟨s1.heap.objs.size, [s1.heap.objs.size], _, _, H1, rfl, I1.kept (t' := s1.toks) fun b o e => Heap.get?_push_of_some _ e, turn_tuple a _, ⟨_, Heap.get?_push_size _ rfl, rfl, rfl⟩, fun b hb => ?_, q⟩
    have e : b = s1.heap.objs.size := by simpa using hb
    subst e
    exact I1.fpOk (Nat.le_refl _) (I1.hok.fresh (Nat.le_refl _))
def xSeqI (t : TE3) : TI3 := fun r R => t r fun x r' => match x with | .d (.list l) => R l r' | .d (.tuple l) => R l r' | .sc _ ns => R (ns.map PyData.int) r' | _ => False
theorem i3_seq (h : R3 X e t) : I3 X tg e (xSeqI t) := by
  obtain ⟨te, ee, se⟩ := h.ex
  refine ⟨_, pi_seq ee, fun G Z H ks vs r s R Q3 st ht k => se G Z H ks vs r s _ _ st ht fun Z1 H1 x v r1 g1 st1 pv q => ?_⟩
  split at q
  · cases (show Dq X.K Z1 v (.list _) from pv) with
    | lst hs ha => exact ⟨_, rfl, .inl ⟨⟨_, SqL.of (st1.zh _ _ hs)⟩, k Z1 H1 _ _ r1 g1 st1 (walks_L (SqL.of hs) ha) q⟩⟩
  · cases (show Dq X.K Z1 v (.tuple _) from pv) with
    | tup hs ha => exact ⟨_, rfl, .inr ⟨⟨_, SqT.of (st1.zh _ _ hs)⟩, k Z1 H1 _ _ r1 g1 st1 (walks_T (SqT.of hs) ha) q⟩⟩
  · obtain ⟨rfl, hs⟩ := pv
    exact ⟨_, rfl, .inl ⟨⟨_, st1.zh.L hs⟩, k Z1 H1 _ _ r1 g1 st1 (walks_L hs (dqa_ints _)) q⟩⟩
  · exact q.elim
def xR1 (t : TE3) : TI3 := fun r R => t r fun x r' => asI x fun j => j < 2 ^ 62 ∧ -(2 ^ 62) ≤ j ∧ R (rangeI 0 j.toNat) r'
theorem i3_range1 (hg : Gl X "range") (hm : X.mg "range" = none) (ha : R3 X a ta) (hs : starEach [a] X.env = [(false, eval a X.env)] := by rfl) : I3 X tg (.Call (.Name "range" p) [a] [] pos) (xR1 ta) := by
  obtain ⟨te, ee, se⟩ := ha.ex
  refine ⟨_, pi_range1 hg hm (pa_cons ee pa_nil hs) hs, fun G Z H ks vs r s R Q3 st ht k => se G Z H ks vs r s _ _ st ht fun Z1 H1 x v r1 g1 st1 pv q => ?_⟩
  obtain ⟨j, rfl, h1, h2, q⟩ := asI_of q
  exact ⟨j, by rw [pv.int], h2, h1, k Z1 H1 _ _ r1 g1 st1 walks_R q⟩
/-- the signs of a text -/
def xStrI (t : TE3) : TI3 := fun r R => t r fun x r' => asS x fun z => R (z.cps.toList.map fun c => PyData.str ⟨#[c]⟩) r'
theorem i3_str (h : R3 X e t) : I3 X tg e (xStrI t) := by
  obtain ⟨te, ee, se⟩ := h.ex
  refine ⟨_, pi_str ee, fun G Z H ks vs r s R Q3 st ht k => se G Z H ks vs r s _ _ st ht fun Z1 H1 x v r1 g1 st1 pv q => ?_⟩
  obtain ⟨z, rfl, q⟩ := asS_of q
  exact ⟨z, pv.str, k Z1 H1 _ _ r1 g1 st1 walks_S q⟩
/-- zip of two lists or of two tuples -/
def zipD (l m : List PyData) : List PyData := List.zipWith (fun x y => PyData.tuple [x, y]) l m
def xZip (ta tb : TE3) : TI3 := fun r R => ta r fun x r1 => tb r1 fun y r2 => match x, y with
  | .d (.list l), .d (.list m) => R (zipD l m) r2
  | .d (.tuple l), .d (.tuple m) => R (zipD l m) r2
  | _, _ => False
theorem i3_zip {tpos : Pos} {elts : List Expr} {kk : Nat} (hg : Gl X "zip") (hm : X.mg "zip" = none) (ha : R3 X a ta) (hb : R3 X b tb) (hs : starEach [a, b] X.env = (false, eval a X.env) :: starEach [b] X.env := by rfl) (hs2 : starEach [b] X.env = (false, eval b X.env) :: starEach [] X.env := by rfl)
    (hpl : (backTo pos (starEach [b] X.env)).any (·.1) = false := by rfl) : I3 X (.Tuple elts kk tpos) (.Call (.Name "zip" p) [a, b] [] pos) (xZip ta tb) := by
  obtain ⟨te, ee, se⟩ := ha.ex
  obtain ⟨tf, ef, sf⟩ := hb.ex
  refine ⟨_, RZ.pi_zipA hg hm (pa_cons ee (pa_cons ef pa_nil hs2) hs) hs hpl, fun G Z H ks vs r s R Q3 st ht k => se G Z H ks vs r s _ _ st ht fun Z1 H1 x v r1 g1 st1 pv qa => sf G Z1 H1 ks vs r1 s _ _ st1 qa fun Z2 H2 y u r2 g2 st2 pv2 q => ?_⟩
  have zl : ∀ (l m : List PyData) (i : Nat), (zipD l m).length ≤ i → l.length ≤ i ∨ m.length ≤ i := fun l m i h => by
    unfold zipD at h; rw [List.length_zipWith] at h; omega
  have zg : ∀ (l m : List PyData) (i : Nat) (x : PyData), (zipD l m)[i]? = some x → ∃ y z, l[i]? = some y ∧ m[i]? = some z ∧ x = .tuple [y, z] := fun l m i x h => by
    unfold zipD at h
    rw [List.getElem?_zipWith] at h
    cases e1 : l[i]? with
    | none => rw [e1] at h; cases h
    | some y =>
      cases e2 : m[i]? with
      | none => rw [e1, e2] at h; cases h
      | some z => rw [e1, e2] at h; exact ⟨y, z, rfl, rfl, (Option.some.inj h).symm⟩
  have mk : ∀ {Z' : Hp} {T0 : Addr} {vx vy : V} {y z : PyData}, Dq X.K Z' vx y → Dq X.K Z' vy z → ∀ H, Sub Z' H → H T0 = none → Dq X.K (upd Z' T0 (.tup [vx, vy])) (.ref T0) (.tuple [y, z]) := fun {Z' T0 vx vy y z} d1 d2 H zh hn => by
    have s : Sub Z' (upd Z' T0 (.tup [vx, vy])) := fun a o e => by rw [upd_ne (fun q => by rw [q] at e; have := zh _ _ e; rw [hn] at this; cases this)]; exact e
    exact .tup upd_same (.cons (dp_mono s _ _ d1) (.cons (dp_mono s _ _ d2) .nil))
  clear qa
  split at q
  · rename_i l m
    have pv' : Dq X.K Z2 v (.list l) := dp_mono g2.sub _ _ pv
    cases pv' with
    | @lst a1 xs _ hs1 ha1 =>
      cases (show Dq X.K Z2 u (.list m) from pv2) with
      | @lst a2 ys _ hs2' ha2 =>
        refine ⟨a1, a2, xs, ys, rfl, .inl ⟨SqL.of (st2.zh _ _ hs1), SqL.of (st2.zh _ _ hs2'), k Z2 H2 _ _ r2 (g1.trans g2) st2 (fun Z' H i z zh => ⟨fun x hx => ?_, fun hi => ?_⟩) q⟩⟩
        · obtain ⟨y, w, e1, e2, rfl⟩ := zg l m i x hx
          obtain ⟨vy, f1, d1⟩ := dpa_get ha1 e1
          obtain ⟨vw, f2, d2⟩ := dpa_get ha2 e2
          refine ⟨⟨xs, ys, vy, vw, SqL.of (zh _ _ (z _ _ hs1)), SqL.of (zh _ _ (z _ _ hs2')), f1, f2⟩, fun v' H' ⟨T0, x', y', h1, h2, h3, h4, h5⟩ => .inr ⟨T0, _, h2, h3, ?_⟩⟩
          have i1 := h4 xs (SqL.of (zh _ _ (z _ _ hs1)))
          have i2 := h5 ys (SqL.of (zh _ _ (z _ _ hs2')))
          rw [f1] at i1; cases i1
          rw [f2] at i2; cases i2
          rw [h1]
          exact mk (dp_mono z _ _ d1) (dp_mono z _ _ d2) H zh h2
        · exact ⟨xs, ys, SqL.of (zh _ _ (z _ _ hs1)), SqL.of (zh _ _ (z _ _ hs2')), by rw [← dpa_len ha1, ← dpa_len ha2]; exact zl l m i hi⟩
  · rename_i l m
    have pv' : Dq X.K Z2 v (.tuple l) := dp_mono g2.sub _ _ pv
    cases pv' with
    | @tup a1 xs _ hs1 ha1 =>
      cases (show Dq X.K Z2 u (.tuple m) from pv2) with
      | @tup a2 ys _ hs2' ha2 =>
        refine ⟨a1, a2, xs, ys, rfl, .inr ⟨SqT.of (st2.zh _ _ hs1), SqT.of (st2.zh _ _ hs2'), k Z2 H2 _ _ r2 (g1.trans g2) st2 (fun Z' H i z zh => ⟨fun x hx => ?_, fun hi => ?_⟩) q⟩⟩
        · obtain ⟨y, w, e1, e2, rfl⟩ := zg l m i x hx
          obtain ⟨vy, f1, d1⟩ := dpa_get ha1 e1
          obtain ⟨vw, f2, d2⟩ := dpa_get ha2 e2
          refine ⟨⟨xs, ys, vy, vw, SqT.of (zh _ _ (z _ _ hs1)), SqT.of (zh _ _ (z _ _ hs2')), f1, f2⟩, fun v' H' ⟨T0, x', y', h1, h2, h3, h4, h5⟩ => .inr ⟨T0, _, h2, h3, ?_⟩⟩
          have i1 := h4 xs (SqT.of (zh _ _ (z _ _ hs1)))
          have i2 := h5 ys (SqT.of (zh _ _ (z _ _ hs2')))
          rw [f1] at i1; cases i1
          rw [f2] at i2; cases i2
          rw [h1]
          exact mk (dp_mono z _ _ d1) (dp_mono z _ _ d2) H zh h2
        · exact ⟨xs, ys, SqT.of (zh _ _ (z _ _ hs1)), SqT.of (zh _ _ (z _ _ hs2')), by rw [← dpa_len ha1, ← dpa_len ha2]; exact zl l m i hi⟩
  · exact q.elim
end
end L3
namespace L3
open PySem PySem.Spec PyProof.Rows L2
/-! ### methods of a list of one's own, at a name -/
/-! ### a def's promise by its body -/
def start3 (N : List Str) (ts : List T) : Rho := ts.map some ++ List.replicate (N.length - ts.length) none
/-- the arguments as they stand behind the body: lists of one's own may have changed -/
def finOk : List T → Rho → Prop
  | [], _ => True
  | .own a _ :: ts, some (.own b _) :: r => a = b ∧ finOk ts r
  | .ob C a dx k f _ :: ts, some (.ob C2 a2 dx2 k2 f2 _) :: r => (C = C2 ∧ a = a2 ∧ dx = dx2 ∧ k = k2 ∧ f = f2) ∧ finOk ts r
  | .d _ :: ts, _ :: r => finOk ts r
  | .v _ :: ts, _ :: r => finOk ts r
  | .sc _ _ :: ts, _ :: r => finOk ts r
  | _, _ => False
def finF : List T → Rho → List T
  | .own _ _ :: ts, some (.own b l) :: r => .own b l :: finF ts r
  | .ob _ _ _ _ _ _ :: ts, some (.ob C a dx k f l) :: r => .ob C a dx k f l :: finF ts r
  | .d x :: ts, _ :: r => .d x :: finF ts r
  | .v x :: ts, _ :: r => .v x :: finF ts r
  | .sc a ns :: ts, _ :: r => .sc a ns :: finF ts r
  | _, _ => []
theorem cto_fin (a : Addr) : ∀ (ts : List T) (r : Rho), finOk ts r → cts a (finF ts r) ≤ cto a r
  | [], r, _ => by simp [finF, cts]
  | .own b l :: ts, [], h => by simp [finOk] at h
  | .own b l :: ts, none :: r, h => by simp [finOk] at h
  | .own b l :: ts, some (.own c m) :: r, h => by
    have h2 : b = c ∧ finOk ts r := h
    have := cto_fin a ts r h2.2
    simp only [finF, cts, cto]
    omega
  | .own b l :: ts, some (.d _) :: r, h => by simp [finOk] at h
  | .own b l :: ts, some (.v _) :: r, h => by simp [finOk] at h
  | .own b l :: ts, some (.sc _ _) :: r, h => by simp [finOk] at h
  | .own b l :: ts, some (.tp _) :: r, h => by simp [finOk] at h
  | .own b l :: ts, some (.ob _ _ _ _ _ _) :: r, h => by simp [finOk] at h
  | .own b l :: ts, some (.hx _ _ _) :: r, h => by simp [finOk] at h
  | .ob _ _ _ _ _ _ :: ts, [], h => by simp [finOk] at h
  | .hx _ _ _ :: ts, [], h => by simp [finOk] at h
  | .hx _ _ _ :: ts, q :: r, h => by cases q <;> simp [finOk] at h
  | .ob _ _ _ _ _ _ :: ts, none :: r, h => by simp [finOk] at h
  | .ob _ _ _ _ _ _ :: ts, some (.own _ _) :: r, h => by simp [finOk] at h
  | .ob _ _ _ _ _ _ :: ts, some (.d _) :: r, h => by simp [finOk] at h
  | .ob _ _ _ _ _ _ :: ts, some (.v _) :: r, h => by simp [finOk] at h
  | .ob _ _ _ _ _ _ :: ts, some (.sc _ _) :: r, h => by simp [finOk] at h
  | .ob _ _ _ _ _ _ :: ts, some (.tp _) :: r, h => by simp [finOk] at h
  | .ob _ _ _ _ _ _ :: ts, some (.hx _ _ _) :: r, h => by simp [finOk] at h
  | .ob C b dx k f l :: ts, some (.ob C2 b2 dx2 k2 f2 l2) :: r, h => by
    have h2 : (C = C2 ∧ b = b2 ∧ dx = dx2 ∧ k = k2 ∧ f = f2) ∧ finOk ts r := h
    have := cto_fin a ts r h2.2
    simp only [finF, cts, cto]
    omega
  | .d x :: ts, [], h => by simp [finOk] at h
  | .v x :: ts, [], h => by simp [finOk] at h
  | .sc b ns :: ts, [], h => by simp [finOk] at h
  | .d x :: ts, q :: r, h => by
    have := cto_fin a ts r h
    rw [cto_cons]
    simp only [finF, cts, ct]
    omega
  | .v x :: ts, q :: r, h => by
    have := cto_fin a ts r h
    rw [cto_cons]
    simp only [finF, cts, ct]
    omega
  | .sc b ns :: ts, q :: r, h => by
    have := cto_fin a ts r h
    rw [cto_cons]
    simp only [finF, cts, ct]
    omega
  | .tp l :: ts, r, h => by cases r <;> simp [finOk] at h
theorem rts_fin {K : PySem.W.Frag} {Z Z' H H' : Hp} (z : Sub Z Z') : ∀ (ts : List T) (vs : List V) (r : Rho) (s : L2.St), RTs K Z H ts vs → finOk ts r → r.length = s.length → (∀ (i : Nat) (t : T), r[i]? = some (some t) → ∃ v, s[i]? = some (some v) ∧ RT K Z' H' t v) → RTs K Z' H' (finF ts r) vs
  | [], _, r, s, .nil, _, _, _ => .nil
  | t :: ts, _, [], s, .cons p q, h, _, _ => by cases t <;> simp [finOk] at h
  | t :: ts, _, x :: r, [], .cons p q, h, hl, _ => by simp at hl
  | t :: ts, v :: vs, x :: r, y :: s, .cons p q, h, hl, hs => by
    have tail : finOk ts r → RTs K Z' H' (finF ts r) vs := fun h => rts_fin z ts _ r s q h (by simpa using hl) fun i t e => by
      have := hs (i + 1) t (by simpa using e)
      simpa using this
    cases t with
    | d x0 =>
      cases p with
      | d p => exact .cons (.d (dp_mono z _ _ p)) (tail h)
    | v x0 => cases p; exact .cons .v (tail h)
    | sc a ns =>
      cases p with
      | sc p => exact .cons (.sc (z.L p)) (tail h)
    | tp l => simp [finOk] at h
    | hx _ _ _ => cases x <;> simp [finOk] at h
    | ob C a dx k f l =>
      cases x with
      | none => simp [finOk] at h
      | some t' =>
        cases t' with
        | ob C2 a2 dx2 k2 f2 l2 =>
          have h2 : (C = C2 ∧ a = a2 ∧ dx = dx2 ∧ k = k2 ∧ f = f2) ∧ finOk ts r := h
          obtain ⟨⟨rfl, rfl, rfl, rfl, rfl⟩, h3⟩ := h2
          obtain ⟨w, e1, rt⟩ := hs 0 (.ob C a dx k f l2) rfl
          have e2 : y = some w := by simpa using e1
          cases p with
          | ob p1 p2 p3 p4 p5 =>
            cases rt with
            | ob q1 q2 q3 q4 q5 => exact .cons (.ob q1 q2 q3 q4 q5) (tail h3)
        | d _ => simp [finOk] at h
        | v _ => simp [finOk] at h
        | sc _ _ => simp [finOk] at h
        | tp _ => simp [finOk] at h
        | own _ _ => simp [finOk] at h
        | hx _ _ _ => simp [finOk] at h
    | own a l =>
      cases x with
      | none => simp [finOk] at h
      | some t' =>
        cases t' with
        | own b m =>
          have h2 : a = b ∧ finOk ts r := h
          obtain ⟨rfl, h3⟩ := h2
          obtain ⟨w, e1, rt⟩ := hs 0 (.own a m) rfl
          have e2 : y = some w := by simpa using e1
          cases p with
          | own p1 p2 =>
            cases rt with
            | own q1 q2 => exact .cons (.own q1 q2) (tail h3)
        | d _ => simp [finOk] at h
        | v _ => simp [finOk] at h
        | sc _ _ => simp [finOk] at h
        | tp _ => simp [finOk] at h
        | ob _ _ _ _ _ _ => simp [finOk] at h
        | hx _ _ _ => simp [finOk] at h
section
variable {P : Program} {w : World} {K : PySem.W.Frag} {mg : Str → Option Value} {base : Heap}
theorem start_st {G Z H : Hp} {ts : List T} {vs : List V} {N : List Str} (h : S3 K G Z H ts vs [] []) : S3 K G Z H [] [] (start3 N ts) (L2.start N vs) := by
  have hl := rts_len h.stk
  have cs : ∀ (a : Addr) (l : List T) (n : Nat), cto a (l.map some ++ List.replicate n none) = cts a l := by
    intro a l n
    induction l with
    | nil =>
      induction n with
      | zero => rfl
      | succ n ih => rw [List.map_nil, List.nil_append, List.replicate_succ]; show cto a (List.replicate n none) = _; simpa using ih
    | cons t l ih => simp only [List.map_cons, List.cons_append, cto, cts, ih]
  refine ⟨h.zh, h.gh, fun a => ?_, fun a c => h.ow a ?_, .nil, fun i t e => ?_, ?_⟩
  · have := h.one a
    unfold start3
    rw [cs]
    simp only [cts, cto] at *
    omega
  · unfold start3 at c
    rw [cs] at c
    simp only [cts, cto] at *
    omega
  · unfold start3 at e
    unfold L2.start
    by_cases hi : i < ts.length
    · rw [List.getElem?_append_left (by rw [List.length_map]; exact hi), List.getElem?_map] at e
      cases q : ts[i]? with
      | none => rw [q] at e; cases e
      | some t' =>
        rw [q] at e
        cases e
        obtain ⟨v, ev, rt⟩ := rts_get h.stk q
        exact ⟨v, by rw [List.getElem?_append_left (by rw [List.length_map, ← hl]; exact hi), List.getElem?_map, ev]; rfl, rt⟩
    · rw [List.getElem?_append_right (by rw [List.length_map]; omega), List.getElem?_replicate] at e
      split at e <;> cases e
  · unfold start3 L2.start
    rw [List.length_append, List.length_append, List.length_map, List.length_map, List.length_replicate, List.length_replicate, hl]
/-- THE RULE for a def that raises nothing: its body by values -/
theorem ok3 {x qual : Str} {st : Stmt} {f : Addr} {fd : FuncData} {N ps : List Str} {k : Nat} {sp : Sp3} (F : Fun K x qual st f fd) (S : FnScope N ps (defScope st)) (len : ∀ ts Q E, sp ts Q E → ts.length = ps.length)
    (hbody : ∀ (cdv : Value) (A : Around) (outer : List Env) (s : Shared) (H : Hp) (E : XK), Room k (A.deeper (envOfC qual (defScope st) s.heap.objs.size f cdv)) →
      ∃ t, B3 (cxOf CX0 P w K mg base N qual (defScope st) f cdv A outer s H E).nox (defBody st) t ∧ ∀ ts Q3 E3, sp ts Q3 E3 → t { nx := fun r => finOk ts r ∧ Q3 (.d .none) (finF ts r), rt := fun x r => finOk ts r ∧ Q3 x (finF ts r) } (start3 N ts)) :
    FnOk P w K mg base CX0 (k + 1) f fd ps (lift K sp) := by
  refine F.ok S (fun vs H Q E h => ?_) (fun cdv A outer s H vs Q E hr h => ?_)
  · obtain ⟨G, Z, ts, Q3, E3, st, hsp, _⟩ := h
    rw [← rts_len st.stk]
    exact len _ _ _ hsp
  · obtain ⟨G, Z, ts, Q3, E3, st, hsp, hq, _⟩ := h
    obtain ⟨t, hB, ht⟩ := hbody cdv A outer s H E hr
    obtain ⟨te, eb, sb⟩ := hB.ex _ takes0
    have ret : ∀ Z' H' r' s' x v, Gr G Z Z' → S3 K G Z' H' [x] [v] r' s' → (finOk ts r' ∧ Q3 x (finF ts r')) → Q v H' := fun Z' H' r' s' x v g st' q => by
      refine hq Z' H' x v (finF ts r') g ⟨st'.zh, st'.gh, fun a => ?_, fun a c => st'.ow a ?_, .cons st'.top (rts_fin g.sub ts vs r' s' st.stk q.1 st'.len st'.slot), fun i t e => by simp at e, rfl⟩ q.2
      · have h1 := st'.one a
        have h2 := cto_fin a ts r' q.1
        simp only [cts, cto] at *
        omega
      · have h2 := cto_fin a ts r' q.1
        simp only [cts, cto] at *
        omega
    exact ⟨te, eb, sb G Z H _ _ _ _ (start_st st) (ht ts Q3 E3 hsp) ⟨fun Z' H' r' s' g st' q => ret Z' H' r' s' _ _ g (st'.pushD .non) q, fun Z' H' r' s' x v g st' q => ret Z' H' r' s' x v g st' q, fun _ _ _ _ _ _ q => q.elim, fun _ _ _ _ _ _ q => q.elim, fun _ _ _ _ _ _ _ q => q.elim⟩⟩
/-- the law's own promise -/
def spLaw : Sp3 := fun ts Q _ => ∃ a ns, ts = [.sc a ns] ∧ ns.length ≤ 63 ∧ ∀ ts', Q (.d (.bool true)) ts'
theorem spLaw_of (H : Hp) (a : Addr) (ns : List Int) (hl : ns.length ≤ 63) (hS : SqL K H a (ns.map V.int)) : lift K spLaw [.ref a] H (fun v _ => v = .bl true) fun _ _ _ => False := by
  refine ⟨fun _ => none, H, [.sc a ns], fun x _ => x = .d (.bool true), fun _ _ => False, ⟨Sub.refl _, fun a o e => (by cases e), fun b => (by simp [cts, ct, cto]), fun b c => (by simp [cts, ct, cto] at c), .cons (.sc hS) .nil, fun i t e => by simp at e, rfl⟩, ⟨a, ns, rfl, hl, fun _ => rfl⟩, fun Z' H' x v ts' g st q => ?_, fun _ _ _ _ _ _ q => q.elim⟩
  subst q
  have h := st.top
  cases h with
  | d h => cases h; rfl
end
end L3
namespace L3
open PySem PySem.Spec PyProof.Rows L2
/-! ### the short names that the printed bodies use -/
abbrev kAdd : C2 := cI0 fun i j => .int (i + j)
abbrev kSub : C2 := cI0 fun i j => .int (i - j)
abbrev kMul : C2 := cI MulOk fun i j => .int (i * j)
abbrev kDiv : C2 := cI CDivW fun i j => .int (i / j)
abbrev kMod : C2 := cI (fun _ j => 0 < j) fun i j => .int (i % j)
abbrev kPow : C2 := cI CPow fun i j => .int (i ^ j.toNat)
abbrev kLt : C2 := cI0 fun i j => .bool (decide (i < j))
abbrev kGt : C2 := cI0 fun i j => .bool (decide (j < i))
abbrev kEq : C2 := cEq fun b => b
abbrev kNe : C2 := cEq fun b => !b
abbrev kEqI : C2 := cEqI fun b => b
abbrev kNeI : C2 := cEqI fun b => !b
abbrev kIsN : C2 := cIsN fun b => b
abbrev kNotN : C2 := cIsN fun b => !b
abbrev xNoE : Addr → List T → Prop := fun _ _ => False
/-! ### a def of the module, by its name -/
def Cal (P : Program) (w : World) (K : PySem.W.Frag) (mg : Str → Option Value) (base : Heap) (x : Str) (k : Nat) (ps : List Str) (sp : Sp3) : Prop :=
  ∃ f fd, FnOk P w K mg base CX0 k f fd ps (lift K sp) ∧ mg x = some (.ref f) ∧ PySem.W.keepIn K (.ref f) = true ∧ Binds K fd ps []
section
variable {X : Cx} {es : List Expr} {e : Expr} {u : TC3} {pos p : Pos} {sp : Sp3} {k j : Nat} {ps : List Str} {x : Str} {t ta : TE3}
theorem p3_cal (c : Cal X.prog X.w X.K X.mg X.base x k ps sp) (hr : Room k X.A) (hg : Gl X x) (hu : C3 X (e :: es) u)
    (hdb : (x == ("__debug__" : Str)) = false := by decide) (he : starEach (e :: es) X.env = (false, eval e X.env) :: starEach es X.env := by rfl) (hpl : (backTo pos (starEach es X.env)).any (·.1) = false := by rfl) :
    P3 X (.Call (.Name x p) (e :: es) [] pos) (xCall sp xNoE u) := by
  obtain ⟨f, fd, F, hm, hk, hb⟩ := c
  exact p3_call F hr hg hm hk hb hu hdb he hpl
end
/-! ### isinstance -/
def tyN : PyData → String
  | .none => "NoneType"
  | .bool _ => "bool"
  | .int _ => "int"
  | .str _ => "str"
  | .list _ => "list"
  | .tuple _ => "tuple"
  | .dict _ => "dict"
theorem tyx_L {K : PySem.W.Frag} {H : Hp} {a : Addr} {xs : List V} (h : SqL K H a xs) : TyX K H (.ref a) (.type "list") := by
  rcases h with (h | ⟨o, h⟩) | ⟨o, its, n, h, hc, _⟩
  · exact .base (.lst h)
  · exact .base (.frz h)
  · exact .kList h hc
/-- isinstance of data: which class it is of, by the table of the built-in ones -/
def isi (b : String) (x : PyData) : Bool := (kitB (tyN x) b).getD false
theorem kit_all (b : String) (h : (["NoneType", "bool", "int", "str", "list", "tuple"].all fun a => (kitB a b).isSome) = true) (x : PyData) (hx : ∀ l, x ≠ .dict l) : kitB (tyN x) b = some (isi b x) := by
  simp only [List.all_cons, List.all_nil, Bool.and_true, Bool.and_eq_true] at h
  obtain ⟨h1, h2, h3, h4, h5, h6⟩ := h
  have g : ∀ o : Option Bool, o.isSome = true → o = some (o.getD false) := fun o h => by
    cases o with
    | none => cases h
    | some b => rfl
  unfold isi
  cases x with
  | none => exact g _ h1
  | bool _ => exact g _ h2
  | int _ => exact g _ h3
  | str _ => exact g _ h4
  | list _ => exact g _ h5
  | tuple _ => exact g _ h6
  | dict l => exact absurd rfl (hx l)
section
variable {X : Cx} {e a : Expr} {t ta : TE3} {pos p p2 : Pos}
theorem tyx_of {K : PySem.W.Frag} {G Z H : Hp} {ks : List T} {vs : List V} {r : Rho} {s : L2.St} {x : PyData} {v : V} (st : S3 K G Z H ks vs r s) (h : Dq K Z v x) (nd : ∀ l, x ≠ .dict l) : TyX K H v (.type (tyN x)) ∧ ∀ l, x ≠ .dict l := by
  cases h with
  | exc _ _ => exact absurd rfl (nd _)
  | non => exact ⟨.base .non, fun _ q => nomatch q⟩
  | bl b => exact ⟨.base (.bl b), fun _ q => nomatch q⟩
  | int i => exact ⟨.base (.int i), fun _ q => nomatch q⟩
  | str x => exact ⟨.base (.str x), fun _ q => nomatch q⟩
  | lst h _ => exact ⟨tyx_L (SqL.of (st.zh _ _ h)), fun _ q => nomatch q⟩
  | tup h _ => exact ⟨.base (.tup (st.zh _ _ h)), fun _ q => nomatch q⟩
def cIsi (b : String) : C1 := fun x r Q => match x with
  | .d (.dict _) => False
  | .d y => Q (.d (.bool (isi b y))) r
  | .own _ _ => Q (.d (.bool (isi b (.list [])))) r
  | _ => False
theorem cIsi_of {b : String} {y : PyData} {r : Rho} {Q : T → Rho → Prop} (h : cIsi b (.d y) r Q) : (∀ l, y ≠ .dict l) ∧ Q (.d (.bool (isi b y))) r := by
  cases y with
  | dict _ => exact h.elim
  | none => exact ⟨fun _ q => (nomatch q), h⟩
  | bool _ => exact ⟨fun _ q => (nomatch q), h⟩
  | int _ => exact ⟨fun _ q => (nomatch q), h⟩
  | str _ => exact ⟨fun _ q => (nomatch q), h⟩
  | list _ => exact ⟨fun _ q => (nomatch q), h⟩
  | tuple _ => exact ⟨fun _ q => (nomatch q), h⟩
theorem r3_isi {b : String} {y : Str} (hg : Gl X "isinstance") (hm : X.mg "isinstance" = none) (hgb : Gl X y) (hmb : X.mg y = none) (hv : bootBuiltins y = some (.type b)) (hk : (["NoneType", "bool", "int", "str", "list", "tuple"].all fun a => (kitB a b).isSome) = true) (ha : R3 X a ta)
    (hn : y ≠ "__name__" := by decide) (hd : (y == ("__debug__" : Str)) = false := by decide) (he : starEach [a, .Name y p2] X.env = (false, eval a X.env) :: starEach [.Name y p2] X.env := by rfl) (he2 : starEach [.Name y p2] X.env = (false, eval (.Name y p2) X.env) :: starEach [] X.env := by rfl)
    (hpl : (backTo pos (starEach [.Name y p2] X.env)).any (·.1) = false := by rfl) : R3 X (.Call (.Name "isinstance" p) [a, .Name y p2] [] pos) (x1 (cIsi b) ta) := by
  obtain ⟨tea, ea, sa⟩ := ha.ex
  refine ⟨_, pe_callB call_isi hg hm boot_isinstance (pa_cons ea (pa_cons (pe_bltn (v := .ty b) hgb hmb hv rfl hn hd) pa_nil he2) he) (by decide) (by decide) he hpl, fun G Z H ks vs r s Q Q3 st ht k => sa G Z H ks vs r s _ _ st ht fun Z1 H1 x v r1 g1 st1 pv q => ?_⟩
  cases x with
  | d y =>
    obtain ⟨nd, q⟩ := cIsi_of q
    obtain ⟨t1, n1⟩ := tyx_of st1 pv nd
    exact ⟨v, .ty b, _, _, _, rfl, .ty b, t1, kit_ty (kit_all b hk y n1), k Z1 H1 (.d (.bool _)) _ r1 g1 st1 (Dq.bl _) q⟩
  | own a0 l =>
    have rt := pv.now st1
    cases rt with
    | own h1 h2 => exact ⟨_, .ty b, _, _, _, rfl, .ty b, tyx_L (SqL.of h1), kit_ty (kit_all b hk (.list []) (fun _ q => nomatch q)), k Z1 H1 (.d (.bool _)) _ r1 g1 st1 (Dq.bl _) q⟩
  | v _ => exact q.elim
  | sc _ _ => exact q.elim
  | tp _ => exact q.elim
  | ob _ _ _ _ _ _ => exact q.elim
  | hx _ _ _ => exact q.elim
def cIsi2 (b c : String) : C1 := fun x r Q => match x with
  | .d (.dict _) => False
  | .d y => Q (.d (.bool (isi b y || isi c y))) r
  | .own _ _ => Q (.d (.bool (isi b (.list []) || isi c (.list [])))) r
  | _ => False
theorem cIsi2_of {b c : String} {y : PyData} {r : Rho} {Q : T → Rho → Prop} (h : cIsi2 b c (.d y) r Q) : (∀ l, y ≠ .dict l) ∧ Q (.d (.bool (isi b y || isi c y))) r := by
  cases y with
  | dict _ => exact h.elim
  | none => exact ⟨fun _ q => (nomatch q), h⟩
  | bool _ => exact ⟨fun _ q => (nomatch q), h⟩
  | int _ => exact ⟨fun _ q => (nomatch q), h⟩
  | str _ => exact ⟨fun _ q => (nomatch q), h⟩
  | list _ => exact ⟨fun _ q => (nomatch q), h⟩
  | tuple _ => exact ⟨fun _ q => (nomatch q), h⟩
theorem r3_isi2 {b c : String} {y z : Str} {kk : Nat} {p3 p4 : Pos} (hg : Gl X "isinstance") (hm : X.mg "isinstance" = none) (hgb : Gl X y) (hmb : X.mg y = none) (hv : bootBuiltins y = some (.type b)) (hgc : Gl X z) (hmc : X.mg z = none) (hvc : bootBuiltins z = some (.type c))
    (hk : (["NoneType", "bool", "int", "str", "list", "tuple"].all fun a => (kitB a b).isSome && (kitB a c).isSome) = true) (ha : R3 X a ta)
    (hn : y ≠ "__name__" := by decide) (hd : (y == ("__debug__" : Str)) = false := by decide) (hn2 : z ≠ "__name__" := by decide) (hd2 : (z == ("__debug__" : Str)) = false := by decide)
    (he : starEach [a, .Tuple [.Name y p2, .Name z p3] kk p4] X.env = (false, eval a X.env) :: starEach [.Tuple [.Name y p2, .Name z p3] kk p4] X.env := by rfl) (he2 : starEach [.Tuple [.Name y p2, .Name z p3] kk p4] X.env = (false, eval (.Tuple [.Name y p2, .Name z p3] kk p4) X.env) :: starEach [] X.env := by rfl)
    (he3 : starEach [.Name y p2, .Name z p3] X.env = (false, eval (.Name y p2) X.env) :: starEach [.Name z p3] X.env := by rfl) (he4 : starEach [.Name z p3] X.env = (false, eval (.Name z p3) X.env) :: starEach [] X.env := by rfl)
    (hpl : (backTo pos (starEach [.Tuple [.Name y p2, .Name z p3] kk p4] X.env)).any (·.1) = false := by rfl) : R3 X (.Call (.Name "isinstance" p) [a, .Tuple [.Name y p2, .Name z p3] kk p4] [] pos) (x1 (cIsi2 b c) ta) := by
  obtain ⟨tea, ea, sa⟩ := ha.ex
  have hkb : (["NoneType", "bool", "int", "str", "list", "tuple"].all fun a => (kitB a b).isSome) = true := by
    rw [List.all_eq_true] at hk ⊢
    exact fun x hx => (Bool.and_eq_true _ _ ▸ hk x hx).1
  have hkc : (["NoneType", "bool", "int", "str", "list", "tuple"].all fun a => (kitB a c).isSome) = true := by
    rw [List.all_eq_true] at hk ⊢
    exact fun x hx => (Bool.and_eq_true _ _ ▸ hk x hx).2
  refine ⟨_, pe_callB call_isiT hg hm boot_isinstance (pa_cons ea (pa_cons (pe_tup (pa_cons (pe_bltn (v := .ty b) hgb hmb hv rfl hn hd) (pa_cons (pe_bltn (v := .ty c) hgc hmc hvc rfl hn2 hd2) pa_nil he4) he3)) pa_nil he2) he) (by decide) (by decide) he hpl, fun G Z H ks vs r s Q Q3 st ht k => sa G Z H ks vs r s _ _ st ht fun Z1 H1 x v r1 g1 st1 pv q => ?_⟩
  have fin : ∀ y : PyData, (∀ l, y ≠ .dict l) → ∀ tp : Addr, TyX X.K (upd H1 tp (.tup [.ty b, .ty c])) v (.type (tyN y)) → H1 tp = none → Q3 (.d (.bool (isi b y || isi c y))) r1 →
      rIsiT X.K [v, .ref tp] (upd H1 tp (.tup [.ty b, .ty c])) Q := fun y hy tp ty hn q => by
    refine ⟨v, tp, _, _, _, (isi b y || isi c y), rfl, upd_same, .cons (.ty b) (.cons (.ty c) .nil), ty, kitAny_cons (kit_ty (kit_all b hkb y hy)) (fun e => ?_) (fun e => ?_), k Z1 _ (.d (.bool _)) _ r1 g1 (st1.laid hn) (Dq.bl _) q⟩
    · refine kitAny_cons (kit_ty (kit_all c hkc y hy)) (fun e2 => ?_) (fun e2 => ?_)
      · rw [e, e2]; exact kitAny_nil
      · rw [e2, Bool.or_true]
    · rw [e, Bool.true_or]
  refine ⟨by show 2 ≤ sizeLine; decide, fun tp hn => ?_⟩
  cases x with
  | d y =>
    obtain ⟨nd, q⟩ := cIsi2_of q
    obtain ⟨t1, n1⟩ := tyx_of (st1.laid (o := .tup [.ty b, .ty c]) hn) pv nd
    exact fin y n1 tp t1 hn q
  | own a0 l =>
    have rt := pv.now (st1.laid (o := .tup [.ty b, .ty c]) hn)
    cases rt with
    | own h1 h2 => exact fin (.list []) (fun _ q => nomatch q) tp (tyx_L (SqL.of h1)) hn q
  | v _ => exact q.elim
  | sc _ _ => exact q.elim
  | tp _ => exact q.elim
  | ob _ _ _ _ _ _ => exact q.elim
  | hx _ _ _ => exact q.elim
/-! ### sorted -/
/-- a pair of ints as data -/
abbrev prI (x : Int × Int) : PyData := .tuple [.int x.1, .int x.2]
end
end L3
namespace L3
open PySem PySem.Spec PyProof.Rows L2
section
variable {P : Program} {w : World} {K : PySem.W.Frag} {mg : Str → Option Value} {base : Heap}
/-- a promise that nobody asks for -/
theorem ok0 {x qual : Str} {st : Stmt} {f : Addr} {fd : FuncData} {N ps : List Str} {k : Nat} {sp : Sp3} (F : Fun K x qual st f fd) (S : FnScope N ps (defScope st)) (z : ∀ ts Q E, sp ts Q E → False) : FnOk P w K mg base CX0 (k + 1) f fd ps (lift K sp) := by
  refine F.ok S (fun vs H Q E h => ?_) (fun cdv A outer s H vs Q E hr h => ?_)
  · obtain ⟨G, Z, ts, Q3, E3, st, hsp, _⟩ := h
    exact (z _ _ _ hsp).elim
  · obtain ⟨G, Z, ts, Q3, E3, st, hsp, _⟩ := h
    exact (z _ _ _ hsp).elim
theorem Cal.mono {x : Str} {j k : Nat} {ps : List Str} {sp : Sp3} (c : Cal P w K mg base x j ps sp) (h : j ≤ k) : Cal P w K mg base x k ps sp := by
  obtain ⟨f, fd, F, r⟩ := c
  exact ⟨f, fd, F.mono h, r⟩
end
end L3
namespace L3
open PySem PySem.Spec PyProof.Rows L2
/-! ### lists of one's own lent to an expression that only reads -/
end L3
namespace L3
open PySem PySem.Spec PyProof.Rows L2
/-! ### enumerate over a list -/
end L3
namespace L3
open PySem PySem.Spec PyProof.Rows L2
/-! ### texts -/
theorem dqa_strs {K : PySem.W.Frag} {Z : Hp} : ∀ (ys : List Str), DqAll K Z (ys.map V.str) (ys.map PyData.str)
  | [] => .nil
  | y :: ys => .cons (.str y) (dqa_strs ys)
theorem strs_dqa {K : PySem.W.Frag} {Z : Hp} : ∀ {ys : List Str} {xs : List V}, DqAll K Z xs (ys.map PyData.str) → xs = ys.map V.str
  | [], xs, h => by cases h; rfl
  | y :: ys, xs, h => by
    cases h with
    | cons h1 h2 =>
      cases h1
      rw [strs_dqa h2]
      rfl
theorem rts_strs {K : PySem.W.Frag} {Z H : Hp} : ∀ (ys : List Str), RTs K Z H (ys.map fun z => T.d (.str z)) (ys.map V.str)
  | [] => .nil
  | y :: ys => .cons (.d (.str y)) (rts_strs ys)
theorem strs_rts {K : PySem.W.Frag} {Z H : Hp} : ∀ {ys : List Str} {xs : List V}, RTs K Z H (ys.map fun z => T.d (.str z)) xs → xs = ys.map V.str
  | [], xs, h => by cases h; rfl
  | y :: ys, xs, h => by
    cases h with
    | cons h1 h2 =>
      cases h1 with
      | d h1 =>
        cases h1
        rw [strs_rts h2]
        rfl
theorem cts_strs (a : Addr) : ∀ (ys : List Str), cts a (ys.map fun z => T.d (.str z)) = 0
  | [] => rfl
  | y :: ys => by simp only [List.map_cons, cts, ct, cts_strs a ys]
section
variable {X : Cx} {o e : Expr} {ta tb : TE3} {pos apos : Pos}
/-- text.split(sep) -/
def xSplit (ta tb : TE3) : TE3 := fun r Q => ta r fun x r1 => asS x fun a => tb r1 fun y r2 => asS y fun b => (b.length == 0) = false ∧ a.length + 2 ≤ sizeLine ∧ ∀ p, Q (.own p ((Txt.split a b).map fun z => T.d (.str z))) r2
theorem p3_split (ha : R3 X o ta) (hb : R3 X e tb) (hs : starEach [e] X.env = [(false, eval e X.env)] := by rfl) (hbase : attributeBase o "split" X.env (eval o X.env) = eval o X.env := by rfl) (hline : (apos.endLine == pos.line) = true := by rfl) :
    P3 X (.Call (.Attribute o "split" apos) [e] [] pos) (xSplit ta tb) := by
  obtain ⟨te, ee, se⟩ := ha.ex
  obtain ⟨tf, ef, sf⟩ := hb.ex
  refine ⟨_, pe_split ee ef hs hbase hline, fun G Z H ks vs r s Q Q3 st ht k => se G Z H ks vs r s _ _ st ht fun Z1 H1 x v r1 g1 st1 pv q => ?_⟩
  obtain ⟨a, rfl, q⟩ := asS_of q
  refine ⟨⟨a, pv.str⟩, sf G Z1 H1 ks vs r1 s _ _ st1 q fun Z2 H2 y u r2 g2 st2 pv2 q => ?_⟩
  obtain ⟨b, rfl, q1, q2, q3⟩ := asS_of q
  refine ⟨a, b, pv.str, by rw [pv2.str], q1, q2, fun p hp => ?_⟩
  have st3 := st2.newD (dqa_strs (Txt.split a b)) hp
  rw [List.map_map] at st3
  exact k Z2 _ _ _ r2 (g1.trans g2) st3 (q3 p)
/-- sep.join(texts) -/
def asStrs (t : T) (k : List Str → Prop) : Prop := match t with
  | .d (.list l) => ∃ ys, l = ys.map PyData.str ∧ k ys
  | .own _ l => ∃ ys : List Str, (l = ys.map fun z => T.d (.str z)) ∧ k ys
  | _ => False
theorem asStrs_of {K : PySem.W.Frag} {G Z H : Hp} {ks : List T} {vs : List V} {r : Rho} {s : L2.St} {t : T} {v : V} {k : List Str → Prop} (h : asStrs t k) (st : S3 K G Z H ks vs r s) (p : Pv K Z r s t v) : ∃ a ys, v = .ref a ∧ SqL K H a (ys.map V.str) ∧ k ys := by
  unfold asStrs at h
  split at h
  · obtain ⟨ys, rfl, q⟩ := h
    cases (show Dq K Z v (.list _) from p) with
    | @lst a1 xs _ hs1 ha1 =>
      cases strs_dqa ha1
      exact ⟨a1, ys, rfl, SqL.of (st.zh _ _ hs1), q⟩
  · obtain ⟨ys, rfl, q⟩ := h
    cases p.now st with
    | own h1 h2 =>
      cases strs_rts h2
      exact ⟨_, ys, rfl, SqL.of h1, q⟩
  · exact h.elim
def xJoin (ta tb : TE3) : TE3 := fun r Q => ta r fun x r1 => asS x fun a => tb r1 fun y r2 => asStrs y fun ys => (ys.map (·.length)).sum + ys.length * a.length ≤ 16777216 ∧ Q (.d (.str (Txt.join a ys))) r2
theorem r3_join (ha : R3 X o ta) (hb : R3 X e tb) (hs : starEach [e] X.env = [(false, eval e X.env)] := by rfl) (hbase : attributeBase o "join" X.env (eval o X.env) = eval o X.env := by rfl) (hline : (apos.endLine == pos.line) = true := by rfl) :
    R3 X (.Call (.Attribute o "join" apos) [e] [] pos) (xJoin ta tb) := by
  obtain ⟨te, ee, se⟩ := ha.ex
  obtain ⟨tf, ef, sf⟩ := hb.ex
  refine ⟨_, pe_join ee ef hs hbase hline, fun G Z H ks vs r s Q Q3 st ht k => se G Z H ks vs r s _ _ st ht fun Z1 H1 x v r1 g1 st1 pv q => ?_⟩
  obtain ⟨a, rfl, q⟩ := asS_of q
  refine ⟨⟨a, pv.str⟩, sf G Z1 H1 ks vs r1 s _ _ st1 q fun Z2 H2 y u r2 g2 st2 pv2 q => ?_⟩
  obtain ⟨p, ys, rfl, hq, q1, q2⟩ := asStrs_of q st2 pv2
  exact ⟨a, p, ys, pv.str, rfl, .inl hq, q1, k Z2 H2 (.d (.str _)) _ r2 (g1.trans g2) st2 (Dq.str _) q2⟩
/-- a sign in a text -/
def cInS (g : Bool → Bool) : C2 := fun _ x y r Q => asS x fun w => asS y fun z => ∃ c, w = ⟨#[c]⟩ ∧ Q (.d (.bool (g (decide (c ∈ z.cps.toList))))) r
theorem con_inS (g : Bool → Bool) : Con2 X (fun x y H Q => ∃ (c : Nat) (z : Str), x = .str ⟨#[c]⟩ ∧ y = .str z ∧ Q (.bl (g (decide (c ∈ z.cps.toList)))) H) (cInS g) := fun G Z H ks vs r1 r s x y tx ty Q Q3 st px py hc k => by
  obtain ⟨w, rfl, hc1⟩ := asS_of hc
  obtain ⟨z, rfl, c, rfl, q⟩ := asS_of hc1
  have e1 : x = .str ⟨#[c]⟩ := by cases px.dat _ rfl; rfl
  exact ⟨c, z, e1, py.str, k Z H (.d (.bool _)) _ r (Gr.refl _ _) st (Dq.bl _) q⟩
abbrev kNotInS : C2 := cInS fun b => !b
variable {a b : Expr}
theorem t3_notinS (ha : R3 X a ta) (hb : R3 X b tb) (hm : behindInMarks .NotIn b = false := by rfl) : T3 X (.Compare a [.NotIn] [b] pos) (xTest (x2 kNotInS ta tb)) := t3_cmp op_notIn_sign (con_inS fun b => !b) ha hb hm
theorem r3_glS {x : Str} {i : Str} (h : ∃ u, X.mg x = some u ∧ RelV (.str i) u) (hg : Gl X x) (hd : (x == ("__debug__" : Str)) = false := by decide) : R3 X (.Name x pos) (xC (.str i)) := by
  obtain ⟨u, hm, rv⟩ := h
  exact r3_globS hg hm rv hd
end
end L3
namespace L3
open PySem PySem.Spec PyProof.Rows L2
end L3
namespace L3
open PySem PySem.Spec PyProof.Rows L2
end L3
/-! zip of two sequences, each a list or a tuple -/
namespace L3
open PySem PySem.Spec PyProof.Rows L2 RZ
def ItIs (b : Bool) (h : Heap) (it a : Addr) (i : Nat) : Prop := match b with | true => h.IsTupleIter it a i | false => h.IsListIter it a i
theorem ItIs.fields {b : Bool} {h : Heap} {it a : Addr} {i : Nat} (x : ItIs b h it a i) : ∃ o vs, h.get? it = some o ∧ o.data = .fields vs := by
  cases b with
  | true => obtain ⟨o, e, _, d⟩ := x; exact ⟨o, _, e, d⟩
  | false => obtain ⟨o, e, _, d⟩ := x; exact ⟨o, _, e, d⟩
end L3
/-! t[::2] of a tuple of three -/
namespace L3
open PySem PySem.Spec PyProof.Rows L2
end L3
set_option maxHeartbeats 1000000
/-! exceptions: raised, let out, caught and kept as values -/
namespace L3
open PySem PySem.Spec PyProof.Rows L2
/-! ### a def that may raise -/
section
variable {P : Program} {w : World} {K : PySem.W.Frag} {mg : Str → Option Value} {base : Heap}
theorem ok3X {x qual : Str} {st : Stmt} {f : Addr} {fd : FuncData} {N ps : List Str} {k : Nat} {sp : Sp3} (F : Fun K x qual st f fd) (S : FnScope N ps (defScope st)) (len : ∀ ts Q E, sp ts Q E → ts.length = ps.length)
    (hbody : ∀ (cdv : Value) (A : Around) (outer : List Env) (s : Shared) (H : Hp) (E : XK), Room k (A.deeper (envOfC qual (defScope st) s.heap.objs.size f cdv)) →
      ∃ t, B3 (cxOf (L2.CX P w) P w K mg base N qual (defScope st) f cdv A outer s H E) (defBody st) t ∧ ∀ ts Q3 E3, sp ts Q3 E3 → t { nx := fun r => finOk ts r ∧ Q3 (.d .none) (finF ts r), rt := fun x r => finOk ts r ∧ Q3 x (finF ts r), ex := fun C r => finOk ts r ∧ E3 C (finF ts r) } (start3 N ts)) :
    FnOk P w K mg base (L2.CX P w) (k + 1) f fd ps (lift K sp) := by
  refine F.okX S (fun vs H Q E h => ?_) (fun cdv A outer s H vs Q E hr h => ?_)
  · obtain ⟨G, Z, ts, Q3, E3, st, hsp, _⟩ := h
    rw [← rts_len st.stk]
    exact len _ _ _ hsp
  · obtain ⟨G, Z, ts, Q3, E3, st, hsp, hq, hx⟩ := h
    obtain ⟨t, hB, ht⟩ := hbody cdv A outer s H E hr
    obtain ⟨te, eb, sb⟩ := hB.ex _ (takes_of rfl rfl rfl rfl)
    have ret : ∀ Z' H' r' s' x v, Gr G Z Z' → S3 K G Z' H' [x] [v] r' s' → (finOk ts r' ∧ Q3 x (finF ts r')) → Q v H' := fun Z' H' r' s' x v g st' q => by
      refine hq Z' H' x v (finF ts r') g ⟨st'.zh, st'.gh, fun a => ?_, fun a c => st'.ow a ?_, .cons st'.top (rts_fin g.sub ts vs r' s' st.stk q.1 st'.len st'.slot), fun i t e => by simp at e, rfl⟩ q.2
      · have h1 := st'.one a
        have h2 := cto_fin a ts r' q.1
        simp only [cts, cto] at *
        omega
      · have h2 := cto_fin a ts r' q.1
        simp only [cts, cto] at *
        omega
    have out : ∀ Z' H' r' s' C, Gr G Z Z' → S3 K G Z' H' [] [] r' s' → (finOk ts r' ∧ E3 C (finF ts r')) → E (.ref C) none H' := fun Z' H' r' s' C g st' q => by
      refine hx Z' H' C (finF ts r') g ⟨st'.zh, st'.gh, fun a => ?_, fun a c => st'.ow a ?_, rts_fin g.sub ts vs r' s' st.stk q.1 st'.len st'.slot, fun i t e => by simp at e, rfl⟩ q.2
      · have h1 := st'.one a
        have h2 := cto_fin a ts r' q.1
        simp only [cts, cto] at *
        omega
      · have h2 := cto_fin a ts r' q.1
        simp only [cts, cto] at *
        omega
    exact ⟨te, eb, sb G Z H _ _ _ _ (start_st st) (ht ts Q3 E3 hsp) ⟨fun Z' H' r' s' g st' q => ret Z' H' r' s' _ _ g (st'.pushD .non) q, fun Z' H' r' s' x v g st' q => ret Z' H' r' s' x v g st' q, fun _ _ _ _ _ _ q => q.elim, fun _ _ _ _ _ _ q => q.elim, fun Z' H' C r' s' g st' q => out Z' H' r' s' C g st' q⟩⟩
/-- a def of the module that may raise, by its name -/
def CalX (P : Program) (w : World) (K : PySem.W.Frag) (mg : Str → Option Value) (base : Heap) (x : Str) (k : Nat) (ps : List Str) (sp : Sp3) : Prop :=
  ∃ f fd, FnOk P w K mg base (L2.CX P w) k f fd ps (lift K sp) ∧ mg x = some (.ref f) ∧ PySem.W.keepIn K (.ref f) = true ∧ Binds K fd ps []
theorem CalX.mono {x : Str} {j k : Nat} {ps : List Str} {sp : Sp3} (c : CalX P w K mg base x j ps sp) (h : j ≤ k) : CalX P w K mg base x k ps sp := by
  obtain ⟨f, fd, F, hm, hk, hb⟩ := c
  exact ⟨f, fd, ⟨F.len, fun A outer s H args us vs Q E hr => F.run A outer s H args us vs Q E (hr.mono h)⟩, hm, hk, hb⟩
end
section
variable {X : Cx} {es : List Expr} {e : Expr} {u : TC3} {pos p : Pos} {sp : Sp3} {k j : Nat} {ps : List Str} {x : Str} {t ta : TE3}
/-! ### .. where it may raise -/
abbrev TX3 := Rho → (T → Rho → Prop) → (Addr → Rho → Prop) → Prop
structure P3W (X : Cx) (e : Expr) (t : TX3) : Prop where
  ex : ∀ W : WX, Takes X W → ∃ te : TE, PE X e te ∧ ∀ (G Z H : Hp) (ks : List T) (vs : List V) (r : Rho) (s : L2.St) (Q : VK) (Q3 : T → Rho → Prop) (E3 : Addr → Rho → Prop), S3 X.K G Z H ks vs r s → t r Q3 E3 →
    (∀ Z' H' x v r', Gr G Z Z' → S3 X.K G Z' H' (x :: ks) (v :: vs) r' s → Q3 x r' → Q v H') →
    (∀ Z' H' C r', Gr G Z Z' → S3 X.K G Z' H' ks vs r' s → E3 C r' → W (.ref C) none s H') → te s H Q
def xCallX (sp : Sp3) (u : TC3) : TX3 := fun r Q E => u r fun as r1 => match looks r1 as with
  | some ts => (ios as).Nodup ∧ sp ts (fun x ts' => Q x (puts r1 as ts')) (fun C ts' => E C (puts r1 as ts'))
  | none => False
theorem callx_run {G Z H : Hp} {ks : List T} {vs : List V} {r : Rho} {s : L2.St} {as : List Arg} {us : List V} {Q : VK} {E : XK} {Q3 : T → Rho → Prop} {E3 : Addr → Rho → Prop} (st : S3 X.K G Z H ks vs r s) (hp : Paired (ArgOk X.K Z s) as us)
    (h : match looks r as with | some ts => (ios as).Nodup ∧ sp ts (fun x ts' => Q3 x (puts r as ts')) (fun C ts' => E3 C (puts r as ts')) | none => False)
    (kq : ∀ Z' H' x v r', Gr G Z Z' → S3 X.K G Z' H' (x :: ks) (v :: vs) r' s → Q3 x r' → Q v H')
    (ke : ∀ Z' H' C r', Gr G Z Z' → S3 X.K G Z' H' ks vs r' s → E3 C r' → E (.ref C) none H') : lift X.K sp us H Q E := by
  refine call_run (E3 := fun C ts' => E3 C (puts r as ts')) st hp h kq fun Z' H' C ts' r' g st' e q => ?_
  subst e
  exact ke Z' H' C _ g st' q
theorem p3w_cal (c : CalX X.prog X.w X.K X.mg X.base x k ps sp) (hr : Room k X.A) (hg : Gl X x) (hu : C3 X (e :: es) u)
    (hdb : (x == ("__debug__" : Str)) = false := by decide) (he : starEach (e :: es) X.env = (false, eval e X.env) :: starEach es X.env := by rfl) (hpl : (backTo pos (starEach es X.env)).any (·.1) = false := by rfl) :
    P3W X (.Call (.Name x p) (e :: es) [] pos) (xCallX sp u) := by
  refine ⟨fun W tk => ?_⟩
  obtain ⟨f, fd, F, hm, hk, hb⟩ := c
  obtain ⟨te, ea, sa⟩ := hu.ex
  refine ⟨_, pe_callS F hr hg hm hk hb (fun σ => passAt tk σ) ea hdb he hpl, fun G Z H ks vs r s Q Q3 E3 st ht kk ke => sa G Z H ks vs r s _ _ st ht fun Z1 H1 as us r1 g1 st1 hp q => ?_⟩
  exact callx_run st1 hp q (fun Z' H' x v r' g => kk Z' H' x v r' (g1.trans g)) fun Z' H' C r' g => ke Z' H' C r' (g1.trans g)
end
section
variable {X : Cx} {st : Stmt} {rest body : List Stmt} {t u : TS3} {e : Expr} {te : TX3} {tt : TT3} {pos : Pos}
def xDropX (te : TX3) : TS3 := fun D r => te r (fun _ r' => D.nx r') D.ex
theorem m3_exprX (h : P3W X e te) (hs : swapsWith e none pos.line X.env = pure false := by rfl) : M3 X (.Expr e pos) (xDropX te) := by
  refine ⟨fun W tk => ?_⟩
  obtain ⟨tea, ea, sa⟩ := h.ex W tk
  exact ⟨_, ps_expr ea hs, fun G Z H r s D D3 st ht im => sa G Z H [] [] r s _ _ _ st ht (fun Z' H' x v r' g st' q => im.nx Z' H' r' s g st'.pop q) fun Z' H' C r' g st' q => im.ex Z' H' C r' s g st' q⟩
def xRetX (te : TX3) : TS3 := fun D r => te r D.rt D.ex
theorem m3_retX (h : P3W X e te) : M3 X (.Return (some e) pos) (xRetX te) := by
  refine ⟨fun W tk => ?_⟩
  obtain ⟨tea, ea, sa⟩ := h.ex W tk
  exact ⟨_, ps_ret ea, fun G Z H r s D D3 st ht im => sa G Z H [] [] r s _ _ _ st ht (fun Z' H' x v r' g st' q => im.rt Z' H' r' s x v g st' q) fun Z' H' C r' g st' q => im.ex Z' H' C r' s g st' q⟩
def xAsgX (t : TX3) (g : TG3) : TS3 := fun D r => t r (fun x r' => g x r' D.nx) D.ex
theorem m3_asgX {tg : Expr} {js : List Nat} {g : TG3} (he : P3W X e te) (hg : G3 X tg js g) (hs : swapsWithSole [tg] e pos.line X.env = pure false := by rfl) (hw : swappedStores [tg] e X.env = pure none := by rfl)
    (h1 : (assignEach [tg] X.env).map (·.2) = [assign tg X.env] := by rfl) : M3 X (.Assign [tg] e pos) (xAsgX te g) := by
  refine ⟨fun W tk => ?_⟩
  obtain ⟨tee, ee, se⟩ := he.ex W tk
  obtain ⟨tg', eg, sg⟩ := hg.ex
  exact ⟨_, ps_asg ee eg hs hw h1, fun G Z H r s D D3 st ht im => se G Z H [] [] r s _ _ _ st ht (fun Z1 H1 x v r1 g1 st1 q => sg G Z1 H1 [] [] r1 s x v _ _ st1 q fun Z2 H2 r2 s2 g2 st2 _ _ q2 => im.nx Z2 H2 r2 s2 (g1.trans g2) st2 q2) fun Z' H' C r' g st' q => im.ex Z' H' C r' s g st' q⟩
/-- raise X('m') -/
def xRaise (C : Addr) : TS3 := fun D r => D.ex C r
theorem m3_raise {C : Addr} (hc : X.calm = true) (he : PMk X e fun _ H Q => Q (.ref C) none H) : M3 X (.Raise (some e) none pos) (xRaise C) :=
  ⟨fun W tk => ⟨_, ps_raise hc tk he, fun G Z H r s D D3 st ht im => im.ex Z H C r s (Gr.refl _ _) st ht⟩⟩
/-- a block that raises nothing, in one that may -/
def xNox (t : TS3) : TS3 := fun D r => t { D with ex := fun _ _ => False } r
theorem b3_nox {sts : List Stmt} (h : B3 X.nox sts t) : B3 X sts (xNox t) := by
  refine ⟨fun W tk => ?_⟩
  obtain ⟨te, ea, sa⟩ := h.ex _ takes0
  exact ⟨te, ea.nox, fun G Z H r s D D3 st ht im => sa G Z H r s D _ st ht ⟨im.nx, im.rt, im.bk, im.ct, fun _ _ _ _ _ _ _ q => q.elim⟩⟩
end
end L3
set_option maxHeartbeats 1000000
/-! try: .. except X as e: .. : the caught one is kept as a value -/
namespace L3
open PySem PySem.Spec PyProof.Rows L2
/-- an exception of the class C at a, tracked -/
def ExV (C a : Addr) : HO := .ext fun h => ∃ (oe : Obj) (vs : Array Value), h.get? a = some oe ∧ Zc (.ref C) none oe ∧ oe.data = .fields vs
theorem exV_is (C a : Addr) : IsExc C a (ExV C a) := ⟨_, rfl, fun _ h => h⟩
theorem exV_ok {P : Program} {w : World} {H : Hp} {h : Heap} {C a : Addr} {oe : Obj} {vs : Array Value} (e : h.get? a = some oe) (z : Zc (.ref C) none oe) (d : oe.data = .fields vs) : ObjOk P w H h a (ExV C a) :=
  ⟨⟨oe, vs, e, z, d⟩, ⟨oe, e⟩, fun _ _ ⟨o, v, q, r⟩ k => ⟨o, v, k o q, r⟩⟩
section
variable {X : Cx} {pins : List (Addr × Obj)} {σ : L2.St} {H : Hp} {s : Shared}
/-- an object that is there and was not at the entry is tracked from now on -/
theorem adopt {a : Addr} {o : HO} (I : Inv X pins σ H s) (na : H a = none) (n0 : X.s_0.heap.get? a = none) (nL : a ≠ X.env.locals) (nC : ∀ v, ¬ s.heap.IsCell a v) (np : ∀ p ∈ X.pn ++ pins, p.1 ≠ a) (new : ObjOk X.prog X.w (upd H a o) s.heap a o) : Inv X pins σ (upd H a o) s := by
  have neS : ∀ b u, H b = some u → b ≠ a := fun b u e z => by rw [z, na] at e; cases e
  have ne0 : ∀ b u, X.s_0.heap.get? b = some u → b ≠ a := fun b u e z => by rw [z, n0] at e; cases e
  refine ⟨I.ok, I.os, I.bare, ⟨I.base.keep, I.base.slot, fun b u e n hx => ?_, I.base.there, fun b xs e => ?_, fun b u xs e => ?_, fun b ps e => ?_⟩, I.loc, I.cell, ?_, fun x c e => ?_, fun p hp => ?_, fun b u e => ?_, I.len⟩
  · rw [upd_ne (ne0 b u e)]; exact I.base.free b u e n hx
  · have := I.base.tups b xs e; rw [upd_ne (neS b _ this)]; exact this
  · have := I.base.frzs b u xs e; rw [upd_ne (neS b _ this)]; exact this
  · obtain ⟨m, z⟩ := I.base.tbls b ps e
    exact ⟨m, by rw [upd_ne (neS b _ z)]; exact z⟩
  · rw [upd_ne (Ne.symm nL)]; exact I.free
  · obtain ⟨v, hv⟩ := I.cell x c e
    rw [upd_ne (fun z => nC v (by rw [← z]; exact hv))]
    exact I.freeC x c e
  · obtain ⟨e, n, ne, nf, d⟩ := I.pin p hp
    exact ⟨e, by rw [upd_ne (np p hp)]; exact n, ne, nf, d⟩
  · by_cases hb : b = a
    · subst hb
      rw [upd_same] at e
      cases e
      exact new
    · rw [upd_ne hb] at e
      exact (I.hok b u e).stay (fun c v _ q => q) (fun c q => by rw [upd_ne (ne_of_none q na)]; exact q) fun c xs q => by rw [upd_ne (ne_of_none q na)]; exact q
theorem toSuite (I : Inv X pins σ H s) (a : Addr) : Inv (X.suite a (X.pn ++ pins)) [] σ H s :=
  ⟨I.ok.suite _ _, I.os, I.bare, I.base, I.loc, I.cell, I.free, I.freeC, fun p hp => I.pin p (by rw [List.append_nil] at hp; exact hp), I.hok, I.len⟩
theorem ofSuite {a : Addr} {pn' : List (Addr × Obj)} (I : Inv (X.suite a (X.pn ++ pins)) pn' σ H s) (ok : X.Ok) : Inv X pins σ H s :=
  ⟨ok, I.os, I.bare, I.base, I.loc, I.cell, I.free, I.freeC, fun p hp => I.pin p (List.mem_append_left _ hp), I.hok, I.len⟩
end
/-- what the clause wishes of an exception of the body, always caught by it: slot i is its name's -/
def wAsV (K : PySem.W.Frag) (c : Value) (i : Nat) (ts : TS) (D : Ends) : WX := fun cls d σ H =>
  d = none ∧ ∃ C, cls = .ref C ∧ PySem.W.exmOne K cls c = some true ∧ ∀ a, H a = none → ts { nx := fun σ' H' => D.nx (σ'.set i none) H', rt := D.rt, bk := fun σ' H' => D.bk (σ'.set i none) H', ct := fun σ' H' => D.ct (σ'.set i none) H' } (σ.set i (some (.ref a))) (upd H a (ExV C a))
section
variable {X : Cx} {x n : Str} {c : Value} {i : Nat} {body suite : List Stmt} {b₀ : Stmt} {np pos pos' : Pos} {tb : WX → TS} {ts : TS}
theorem ps_try_asV (hs : X.stack = X.env :: X.outer) (hf : X.env.frame = some X.env.locals) (hex : X.ex = []) (hN : X.N.Nodup) (hi : X.N[i]? = some n) (hln : X.env.kindOf n = some .local) (hc : Names X x c)
    (hb : ∀ (W : WX) (pn : List (Addr × Obj)) (xe : Value → Shared → Prop), Takes (X.tr pn xe) W → PassesOwn (model X.prog X.w) X.A X.env xe → PSs (X.tr pn xe) body (tb W))
    (hsu : ∀ (a : Addr) (pn : List (Addr × Obj)), PSs (X.suite a pn) (b₀ :: suite) ts) :
    PS X (.Try body [.ExceptHandler (some (.Name x np)) (some n) (b₀ :: suite) pos'] [] [] pos) (fun D σ H => tb (wAsV X.K c i ts D) D σ H) := by
  refine ⟨fun pins s σ H D I h => ?_⟩
  have ok := I.ok
  have hfr : X.A.frames = some (X.env :: X.outer) := by rw [ok.frames, hs]
  have hloc : Loc X.env.scope n := .inl hln
  refine wpAny_Try_except ?_
  refine wpAny_mono ((hb (wAsV X.K c i ts D) (X.pn ++ pins) (fun e s₁ => wpAny (model X.prog X.w) X.A (noteFrame e X.env) (fun _ s₂ => wpAny (model X.prog X.w) X.A (setFlight e none) (fun _ s₃ =>
    wpAny (model X.prog X.w) X.A (handleBy e X.env [.ExceptHandler (some (.Name x np)) (some n) (b₀ :: suite) pos']) (SP X pins D) X.xe s₃) X.xe s₂) X.xe s₁) (fun u s' xx => ?_) PassesOwn.looking).run [] s σ H D (I.toTry _) h) (fun f s1 hsp => ?_) (fun e s1 he => he)
  · -- the catch
    obtain ⟨a, B, sI, pins', σ', H', cls, d, rfl, J', nb, up, sky, na, os, ag, hd0, C, rfl, hb1, hyes⟩ := xx
    subst hd0
    have J : Inv X pins σ' H' sI := J'.ofTry ok
    have sky' : Sky B (X.env :: X.outer) a (Zc (.ref C) none) X.env.locals s'.heap := by rw [← hs]; exact sky
    show wpAny (model X.prog X.w) X.A (noteFrame (.ref a) X.env) _ _ _
    refine Sky.land Zc.steady hfr hf sky' fun h3 fl3 up3 => ?_
    have J3 : Inv X pins σ' H' { s' with heap := h3 } := J.landed nb fl3.1 (up.trans up3) os ag
    obtain ⟨oe3, vs3, he3, hz3, hd3⟩ := fl3.there
    have notFr : ∀ {h : Heap} {o : Obj} {vs : Array Value}, h.FunFrames B (X.env :: X.outer) → h.get? a = some o → o.data = .fields vs → a ∉ frs (X.env :: X.outer) := fun {h o vs} ff e dd hm => by
      obtain ⟨_, o', e', hnf⟩ := ff.mem hm
      rw [e] at e'; cases e'
      exact hnf _ dd
    have nfr := notFr fl3.2.2.1 he3 hd3
    have nL : a ≠ X.env.locals := fun z => nfr (List.mem_filterMap.mpr ⟨X.env, List.mem_cons_self, by rw [hf, z]⟩)
    have nF : a ∉ X.fs := fun hm => by
      obtain ⟨e, he, q⟩ := List.mem_filterMap.mp hm
      exact nfr (List.mem_filterMap.mpr ⟨e, List.mem_cons_of_mem _ he, q⟩)
    have nI : sI.heap.get? a = none := by
      cases e : sI.heap.get? a with
      | none => rfl
      | some o =>
        have := nb a o e (by rw [hs]; exact nfr)
        rw [fl3.2.1] at this
        cases this
    have n0 : X.s_0.heap.get? a = none := by
      cases e : X.s_0.heap.get? a with
      | none => rfl
      | some o =>
        obtain ⟨o', e'⟩ := J.base.there a o e (by rw [hex]; exact fun z => nomatch z)
        rw [nI] at e'
        cases e'
    have npin : ∀ p ∈ X.pn ++ pins, p.1 ≠ a := fun p hp z => by
      obtain ⟨e, _⟩ := J.pin p hp
      rw [z, nI] at e
      cases e
    have S3 := J3.suite he3 hd3 na nL nF
    refine wpAny_handleBy_cons (codeAny_handlers_test ?_) (by intro q; cases q)
    have LT : PySem.W.Looks (model X.prog X.w) h3 (typeOf (.ref a)) (.ref C) := fun A Q E s k q => wpAny_typeOf_ref (k _ _ he3) (by rw [hz3.1]; exact q)
    have LM := PySem.W.exm_one (M := model X.prog X.w) (J3.kIn) LT hb1
    have test : ∀ {Q : Value → Shared → Prop} {E : Value → Shared → Prop}, Q c { s' with heap := h3 } → wpAny (model X.prog X.w) (X.A.mark (some (.ref a))) (eval (.Name x np) X.env) Q E { s' with heap := h3 } := fun {Q E} q => by
      obtain ⟨hg, hdbg, hm | ⟨hm, hv, hnn⟩⟩ := hc
      · exact ld_glob (X := X.suite a ((a, oe3) :: (X.pn ++ pins))) S3 hg hm q hdbg
      · exact ld_blt (X := X.suite a ((a, oe3) :: (X.pn ++ pins))) S3 hg hm hv q hnn hdbg
    refine test (LM.here ?_)
    refine codeAny_handlers_suite_as ?_
    refine HandSPX.lands_againZ fl3 fun h4 fl4 up4 => ?_
    have J4 : Inv X pins σ' H' { s' with heap := h4 } := J.landed nb fl4.1 ((up.trans up3).trans up4) os ag
    obtain ⟨oe4, vs4, he4, hz4, hd4⟩ := fl4.there
    have J5 : Inv X pins σ' (upd H' a (ExV C a)) { s' with heap := h4 } := adopt J4 na n0 nL (fun v ⟨o, e, dd⟩ => by
      have e' : h4.get? a = some o := e
      rw [he4] at e'
      cases e'
      rw [hd4] at dd
      cases dd) npin (exV_ok he4 hz4 hd4)
    refine store_ok (X := X.suite a (X.pn ++ pins)) (v := .ref a) (toSuite J5 a) hN hi hloc rfl (fun s5 S5 => ?_) (.inr hln)
    refine wpAny_mono ((hsu a (X.pn ++ pins)).run [] s5 _ _ _ S5 (hyes a na)) (fun f s6 hsp => ?_) (fun _ _ z => False.elim z)
    have end_ : ∀ {σ6 : L2.St} {H6 : Hp} {Q : Shared → Prop}, Inv (X.suite a (X.pn ++ pins)) [] σ6 H6 s6 → (∀ s7, Inv X pins (σ6.set i none) H6 s7 → Q s7) →
        wpAny (model X.prog X.w) X.A (do bindName X.env n .none; unbindBehindTheSuite X.env n pos') (fun _ s7 => Q s7) X.xe s6 := fun {σ6 H6 Q} S6 hq => gone_ok (ofSuite S6 ok) hN hi hln hq
    cases f with
    | next =>
      obtain ⟨σ6, H6, S6, q6⟩ := hsp
      exact end_ S6 fun s7 J7 => ⟨_, _, J7, q6⟩
    | brk =>
      obtain ⟨σ6, H6, S6, q6⟩ := hsp
      exact end_ S6 fun s7 J7 => ⟨_, _, J7, q6⟩
    | cont =>
      obtain ⟨σ6, H6, S6, q6⟩ := hsp
      exact end_ S6 fun s7 J7 => ⟨_, _, J7, q6⟩
    | ret u =>
      obtain ⟨v6, σ6, H6, S6, r6, q6⟩ := hsp
      exact end_ S6 fun s7 J7 => ⟨_, _, _, J7, r6, q6⟩
  · cases f with
    | next =>
      obtain ⟨σ', H', J', q⟩ := hsp
      exact wpAny_execs_nil ⟨σ', H', J'.ofTry ok, q⟩
    | brk =>
      obtain ⟨σ', H', J', q⟩ := hsp
      exact ⟨σ', H', J'.ofTry ok, q⟩
    | cont =>
      obtain ⟨σ', H', J', q⟩ := hsp
      exact ⟨σ', H', J'.ofTry ok, q⟩
    | ret u =>
      obtain ⟨v, σ', H', J', r, q⟩ := hsp
      exact ⟨v, σ', H', J'.ofTry ok, r, q⟩
/-- a block's reading, told at once -/
def lowS (K : PySem.W.Frag) (W : WX) (t : TS3) : TS := fun D s H => ∃ (G Z : Hp) (r : Rho) (D3 : Ends3), S3 K G Z H [] [] r s ∧ t D3 r ∧ Imp K W G Z D3 D
theorem B3.low {X : Cx} {sts : List Stmt} {t : TS3} (h : B3 X sts t) {W : WX} (tk : Takes X W) : PSs X sts (lowS X.K W t) := by
  obtain ⟨te, ea, sa⟩ := h.ex W tk
  exact ⟨fun pins s σ H D I ⟨G, Z, r, D3, st, ht, im⟩ => ea.run pins s σ H D I (sa G Z H r σ D D3 st ht im)⟩
/-- try: body / except x as n: suite, by values; U: the classes under x -/
def xTry (U : Addr → Prop) (i : Nat) (tb tu : TS3) : TS3 := fun D r => tb { D with ex := fun C r1 => U C ∧ tu { nx := fun r2 => D.nx (r2.set i none), rt := D.rt, bk := fun r2 => D.bk (r2.set i none), ct := fun r2 => D.ct (r2.set i none), ex := fun _ _ => False } (r1.set i (some (.d (excD C)))) } r
theorem m3_try (i : Nat) {U : Addr → Prop} {tb3 tu : TS3} (hs : X.stack = X.env :: X.outer) (hf : X.env.frame = some X.env.locals) (hex : X.ex = []) (hN : X.N.Nodup) (hi : X.N[i]? = some n) (hln : X.env.kindOf n = some .local) (hc : Names X x c) (hU : ∀ C, U C → PySem.W.exmOne X.K (.ref C) c = some true)
    (hb : ∀ (pn : List (Addr × Obj)) (xe : Value → Shared → Prop), PassesOwn (model X.prog X.w) X.A X.env xe → B3 (X.tr pn xe) body tb3)
    (hsu : ∀ (a : Addr) (pn : List (Addr × Obj)), B3 (X.suite a pn) (b₀ :: suite) tu) :
    M3 X (.Try body [.ExceptHandler (some (.Name x np)) (some n) (b₀ :: suite) pos'] [] [] pos) (xTry U i tb3 tu) := by
  refine ⟨fun W tk => ⟨_, ps_try_asV (tb := fun W => lowS X.K W tb3) (ts := lowS X.K (fun _ _ _ _ => False) tu) hs hf hex hN hi hln hc (fun W pn xe tk po => (hb pn xe po).low tk) (fun a pn => (hsu a pn).low takes0), fun G Z H r s D D3 st ht im => ?_⟩⟩
  refine ⟨G, Z, r, _, st, ht, ⟨im.nx, im.rt, im.bk, im.ct, fun Z' H' C r1 s1 g st1 q => ⟨rfl, C, rfl, hU C q.1, fun a ha => ?_⟩⟩⟩
  obtain ⟨g2, st2⟩ := st1.laidG (o := ExV C a) ha
  have gg := g.trans g2
  exact ⟨G, _, _, _, (st2.pushD (.exc upd_same (exV_is C a))).store, q.2, ⟨fun Z3 H3 r3 s3 g3 st3 q3 => im.nx Z3 H3 _ _ (gg.trans g3) st3.wipe q3, fun Z3 H3 r3 s3 x v g3 st3 q3 => im.rt Z3 H3 r3 s3 x v (gg.trans g3) st3 q3, fun Z3 H3 r3 s3 g3 st3 q3 => im.bk Z3 H3 _ _ (gg.trans g3) st3.wipe q3, fun Z3 H3 r3 s3 g3 st3 q3 => im.ct Z3 H3 _ _ (gg.trans g3) st3.wipe q3, fun _ _ _ _ _ _ _ q => q.elim⟩⟩
end
/-! ### isinstance of an exception -/
def rIsX (K : PySem.W.Frag) : List V → Hp → VK → Prop := fun xs H Q => ∃ (a C : Addr) (o : HO) (c : V) (cv : Value) (b : Bool), xs = [.ref a, c] ∧ H a = some o ∧ IsExc C a o ∧ ExcC K C ∧ (∀ u, RelV c u → u = cv) ∧ PySem.W.kitOne K (.ref C) cv = some b ∧ Q (.bl b) H
theorem call_isX {X : Cx} : CallR X (.builtin "isinstance") (rIsX X.K) := by
  intro pins s σ H xs us Q I r h
  obtain ⟨a, D, o, c, cv, b, rfl, ho, ⟨φ, rfl, hφ⟩, C, hcv, e, q⟩ := h
  cases r with
  | cons rx rr =>
    cases rr with
    | cons rt rr =>
      cases rr
      cases rx
      have ec := hcv _ rt
      subst ec
      have ob : ObjOk X.prog X.w H s.heap a (.ext φ) := I.hok a _ ho
      obtain ⟨oe, vs, hget, hz, hv⟩ := hφ _ ob.1
      have J : PySem.W.InstAt s.heap a oe D none := by
        obtain ⟨oc, od, oda, osl⟩ := oe
        obtain ⟨h1, h2⟩ := hz
        dsimp only at h1 h2 hv
        subst h1 h2 hv
        exact ⟨hget, rfl, rfl, trivial⟩
      exact PySem.W.kia_one (PySem.W.handS_kitx_exc C.hg C.hk C.hs C.hd C.ha C.hn C.ht C.hm) I.kIn J e (fun z => nomatch z) fun tk => ⟨.bl b, H, I.kept (t' := tk) fun _ _ z => z, rfl, q⟩
section
variable {X : Cx} {a e : Expr} {ta t : TE3} {pos p p2 : Pos}
/-- N: the classes' names; c: where they stand; sub: which is under which -/
def xIsE (N : List Str) (c : Str → Addr) (sub : Str → Str → Bool) (m : Str) (ta : TE3) : TE3 := fun r Q => ta r fun x r' => ∃ n, n ∈ N ∧ x = .d (excD (c n)) ∧ Q (.d (.bool (sub n m))) r'
theorem r3_isE {N : List Str} {c : Str → Addr} {sub : Str → Str → Bool} {m : Str} {v0 : V} {cv : Value} (hg : Gl X "isinstance") (hm : X.mg "isinstance" = none)
    (hC : ∀ n ∈ N, ExcC X.K (c n)) (hcv : ∀ u, RelV v0 u → u = cv) (hk : ∀ n ∈ N, PySem.W.kitOne X.K (.ref (c n)) cv = some (sub n m)) (hp : PE X (.Name m p2) (tC v0)) (ha : R3 X a ta)
    (he : starEach [a, .Name m p2] X.env = (false, eval a X.env) :: starEach [.Name m p2] X.env := by rfl) (he2 : starEach [.Name m p2] X.env = (false, eval (.Name m p2) X.env) :: starEach [] X.env := by rfl)
    (hpl : (backTo pos (starEach [.Name m p2] X.env)).any (·.1) = false := by rfl) : R3 X (.Call (.Name "isinstance" p) [a, .Name m p2] [] pos) (xIsE N c sub m ta) := by
  obtain ⟨tea, ea, sa⟩ := ha.ex
  refine ⟨_, pe_callB call_isX hg hm boot_isinstance (pa_cons ea (pa_cons hp pa_nil he2) he) (by decide) (by decide) he hpl, fun G Z H ks vs r s Q Q3 st ht k => sa G Z H ks vs r s _ _ st ht fun Z1 H1 x v r1 g1 st1 pv q => ?_⟩
  obtain ⟨n, hn, rfl, q⟩ := q
  cases (show Dq X.K Z1 v (excD (c n)) from pv) with
  | exc h1 h2 => exact ⟨_, c n, _, v0, cv, _, rfl, st1.zh _ _ h1, h2, hC n hn, hcv, hk n hn, k Z1 H1 (.d (.bool _)) _ r1 g1 st1 (Dq.bl _) q⟩
/-! ### l.index(b), l.count(b) of a list of truths -/
end
/-! ### the program's classes of refusals -/
def errN : List Str := ["NoAsking", "NoNumber", "NoText", "NoLattice", "NoAsk"]
def errSub (n m : Str) : Bool := n == m || m == "UnderError" || m == "ValueError"
/-- the address of a class, by its name -/
def cOf (mg : Str → Option Value) (n : Str) : Addr := match mg n with | some (.ref a) => a | _ => 0
theorem cOf_eq {mg : Str → Option Value} {n : Str} {a : Addr} (h : mg n = some (.ref a)) : cOf mg n = a := by
  unfold cOf
  rw [h]
/-- one of the refusals under the classes' head -/
def Under (cN : Str → Addr) (C : Addr) : Prop := ∃ n, n ∈ errN ∧ C = cN n
structure ErrC (K : PySem.W.Frag) (mg : Str → Option Value) (n : Str) : Prop where
  g : mg n = some (.ref (cOf mg n))
  x : PySem.W.excIn K (cOf mg n) [.type "ValueError", .type "Exception", .type "BaseException", .type "object"] "ValueError.__new__" = true
  k : PySem.W.keepIn K (.ref (cOf mg n)) = true
  b : PySem.W.subIn K (.ref (cOf mg n)) (.type "BaseException") = some true
  t : PySem.W.typeIn K (.ref (cOf mg n)) = some (.type "type")
  c : ExcC K (cOf mg n)
  u : PySem.W.exmOne K (.ref (cOf mg n)) (.ref (cOf mg "UnderError")) = some true
  i : ∀ m, m ∈ errN ∨ m = "UnderError" → PySem.W.kitOne K (.ref (cOf mg n)) (.ref (cOf mg m)) = some (errSub n m)
  v : PySem.W.kitOne K (.ref (cOf mg n)) (.type "ValueError") = some true
structure ErrOk (K : PySem.W.Frag) (mg : Str → Option Value) : Prop where
  e : ∀ n ∈ errN, ErrC K mg n
  u : mg "UnderError" = some (.ref (cOf mg "UnderError"))
  v : mg "ValueError" = none
theorem ErrOk.und {K : PySem.W.Frag} {mg : Str → Option Value} (h : ErrOk K mg) : ∀ C, Under (cOf mg) C → PySem.W.exmOne K (.ref C) (.ref (cOf mg "UnderError")) = some true := fun C ⟨n, hn, e⟩ => by
  rw [e]; exact (h.e n hn).u
section
variable {X : Cx} {a : Expr} {ta : TE3} {pos p p2 pos' : Pos}
/-- raise X('m'), of the program's own -/
theorem m3_raiseN (n : Str) {m : Str} {j} (E : ErrOk X.K X.mg) (hg : Gl X n) (hn : n ∈ errN := by decide) (hc : X.calm = true := by rfl) (hdb : (n == ("__debug__" : Str)) = false := by decide) : M3 X (.Raise (some (.Call (.Name n p) [.Constant (.str m) j p2] [] pos)) none pos') (xRaise (cOf X.mg n)) :=
  m3_raise hc (pmk_own PySem.F.excBase_ValueError (E.e n hn).x (E.e n hn).g (E.e n hn).k (raises_own (E.e n hn).b (E.e n hn).t) hg hdb)
theorem r3_isN_ (m : Str) (E : ErrOk X.K X.mg) (hg : Gl X "isinstance") (hm : X.mg "isinstance" = none) (hgm : Gl X m) (ha : R3 X a ta) (hn : m ∈ errN ∨ m = "UnderError" := by decide)
    (he : starEach [a, .Name m p2] X.env = (false, eval a X.env) :: starEach [.Name m p2] X.env := by rfl) (he2 : starEach [.Name m p2] X.env = (false, eval (.Name m p2) X.env) :: starEach [] X.env := by rfl)
    (hpl : (backTo pos (starEach [.Name m p2] X.env)).any (·.1) = false := by rfl) (hd : (m == ("__debug__" : Str)) = false := by decide) : R3 X (.Call (.Name "isinstance" p) [a, .Name m p2] [] pos) (xIsE errN (cOf X.mg) errSub m ta) :=
  r3_isE (v0 := .ref (cOf X.mg m)) (cv := .ref (cOf X.mg m)) hg hm (fun n hn => (E.e n hn).c) (fun u r => by cases r; rfl) (fun n hn2 => (E.e n hn2).i m hn) (pe_glob hgm (by
    rcases hn with h | h
    · exact (E.e m h).g
    · subst h; exact E.u) rfl hd) ha he he2 hpl
theorem r3_isV (E : ErrOk X.K X.mg) (hg : Gl X "isinstance") (hm : X.mg "isinstance" = none) (hgm : Gl X "ValueError") (ha : R3 X a ta)
    (he : starEach [a, .Name "ValueError" p2] X.env = (false, eval a X.env) :: starEach [.Name "ValueError" p2] X.env := by rfl) (he2 : starEach [.Name "ValueError" p2] X.env = (false, eval (.Name "ValueError" p2) X.env) :: starEach [] X.env := by rfl)
    (hpl : (backTo pos (starEach [.Name "ValueError" p2] X.env)).any (·.1) = false := by rfl) : R3 X (.Call (.Name "isinstance" p) [a, .Name "ValueError" p2] [] pos) (xIsE errN (cOf X.mg) errSub "ValueError" ta) :=
  r3_isE (v0 := .ty "ValueError") (cv := .type "ValueError") hg hm (fun n hn => (E.e n hn).c) (fun u r => by cases r; rfl) (fun n hn => by rw [(E.e n hn).v]; unfold errSub; simp) (pe_bltn hgm E.v boot_ValueError rfl (by decide) (by decide)) ha he he2 hpl
theorem m3_tryU (i : Nat) {n : Str} {b₀ : Stmt} {body suite : List Stmt} {np : Pos} {tb tu : TS3} (E : ErrOk X.K X.mg) (hN : X.N.Nodup) (hg : Gl X "UnderError")
    (hb : ∀ (pn : List (Addr × Obj)) (xe : Value → Shared → Prop), PassesOwn (model X.prog X.w) X.A X.env xe → B3 (X.tr pn xe) body tb)
    (hsu : ∀ (a : Addr) (pn : List (Addr × Obj)), B3 (X.suite a pn) (b₀ :: suite) tu) (hs : X.stack = X.env :: X.outer := by rfl) (hf : X.env.frame = some X.env.locals := by rfl) (hex : X.ex = [] := by rfl) (hi : X.N[i]? = some n := by rfl) (hln : X.env.kindOf n = some .local := by rfl) :
    M3 X (.Try body [.ExceptHandler (some (.Name "UnderError" np)) (some n) (b₀ :: suite) pos'] [] [] pos) (xTry (Under (cOf X.mg)) i tb tu) :=
  m3_try i hs hf hex hN hi hln ⟨hg, by decide, .inl E.u⟩ E.und hb hsu
end
theorem kit_ref {K : PySem.W.Frag} {D C : Addr} {b : Bool} (hsub : PySem.W.subIn K (.ref D) (.ref C) = some b) (hself : PySem.W.subIn K (.ref D) (.ref D) = some true) (hd : PySem.W.hasDictIn K C = true) (ht : PySem.W.typeIn K (.ref C) = some (.type "type")) : PySem.W.kitOne K (.ref D) (.ref C) = some b := by
  unfold PySem.W.kitOne
  by_cases e : D = C
  · subst e
    rw [hself] at hsub
    cases hsub
    rw [if_pos (by simp)]
  · rw [if_neg (by simpa using e)]
    obtain ⟨cd, hc, _⟩ := PySem.W.any_some hd
    unfold PySem.W.kitCls
    show (if ((PySem.W.clsIn K C).isSome && PySem.W.typeIn K (.ref C) == some (.type "type")) = true then _ else _) = _
    rw [hc, ht, if_pos (by rfl)]
    exact hsub
theorem kit_val {K : PySem.W.Frag} {D : Addr} (h : PySem.W.subIn K (.ref D) (.type "ValueError") = some true) : PySem.W.kitOne K (.ref D) (.type "ValueError") = some true := by
  unfold PySem.W.kitOne
  rw [if_neg (by rw [show ((Value.ref D) == Value.type "ValueError") = false from rfl]; exact Bool.false_ne_true)]
  unfold PySem.W.kitCls
  show (if PySem.W.kitMeta "ValueError" = true then _ else _) = _
  rw [if_pos (by decide +kernel)]
  exact h
theorem errN_cases {n : Str} (h : n ∈ errN) : n = "NoAsking" ∨ n = "NoNumber" ∨ n = "NoText" ∨ n = "NoLattice" ∨ n = "NoAsk" := by
  simpa [errN] using h
theorem errC_of {K : PySem.W.Frag} {mg : Str → Option Value} {n : Str} {e eU : Addr} (g : mg n = some (.ref e)) (gU : mg "UnderError" = some (.ref eU)) (x : PySem.W.excIn K e [.type "ValueError", .type "Exception", .type "BaseException", .type "object"] "ValueError.__new__" = true) (k : PySem.W.keepIn K (.ref e) = true) (b : PySem.W.subIn K (.ref e) (.type "BaseException") = some true)
    (t : PySem.W.typeIn K (.ref e) = some (.type "type")) (hd : PySem.W.hasDictIn K e = true) (hg : PySem.W.findIn K (.ref e) "__getattribute__" = some (some (.builtin "BaseException.__getattribute__"))) (hk : PySem.W.findIn K (.ref e) "__getattr__" = some none) (ha : PySem.W.findIn K (.ref e) "__class__" = some (some (.builtin "object.__class__")))
    (hn : PySem.W.specialIn K (.builtin "object.__class__") "__get__" = some (some (.builtin "getset_descriptor.__get__"))) (ht : PySem.W.takesIn K (.builtin "object.__class__") = some true) (hm : PySem.W.mroIn K e (.type "object") = some true) (u0 : PySem.W.subIn K (.ref e) (.ref eU) = some true) (bU : PySem.W.subIn K (.ref eU) (.type "BaseException") = some true)
    (hdU : PySem.W.hasDictIn K eU = true) (tU : PySem.W.typeIn K (.ref eU) = some (.type "type")) (self : PySem.W.subIn K (.ref e) (.ref e) = some true) (v : PySem.W.subIn K (.ref e) (.type "ValueError") = some true)
    (i : ∀ m, m ∈ errN ∨ m = "UnderError" → ∃ em, mg m = some (.ref em) ∧ PySem.W.hasDictIn K em = true ∧ PySem.W.typeIn K (.ref em) = some (.type "type") ∧ PySem.W.subIn K (.ref e) (.ref em) = some (errSub n m)) : ErrC K mg n := by
  have q := cOf_eq g
  have qU := cOf_eq gU
  refine ⟨by rw [q]; exact g, by rw [q]; exact x, by rw [q]; exact k, by rw [q]; exact b, by rw [q]; exact t, by rw [q]; exact ⟨hg, hk, b, hd, ha, hn, ht, hm⟩, by rw [q, qU]; exact PySem.W.exm_ref bU hdU tU u0, fun m hm => ?_, by rw [q]; exact kit_val v⟩
  obtain ⟨em, gm, h1, h2, h3⟩ := i m hm
  rw [q, cOf_eq gm]
  exact kit_ref h3 self h1 h2
end L3
namespace L3
open PySem PySem.Spec PyProof.Rows L2
end L3
/-! enumerate of a list or a tuple -/
namespace PySem
open Sem (wp)
end PySem
namespace L3
open PySem PySem.Spec PyProof.Rows L2 RZ
end L3
namespace L3
open PySem PySem.Spec PyProof.Rows L2
/-! % by any divisor but 0 -/
end L3
/-! a tuple so many times, also once and none; l.extend -/
namespace L3
open PySem PySem.Spec PyProof.Rows L2
end L3
namespace L3
open PySem PySem.Spec PyProof.Rows L2
/-! ### is not b, of truths -/
/-! ### isinstance of an exception and some classes -/
/-! ### a test that may raise -/
end L3
namespace L3
open PySem PySem.Spec PyProof.Rows L2
/-! ### a list of data, read -/
/-! ### min of a list of data that have a type of ours -/
/-! ### sorted of such a list -/
/-! ### all of a list of truths -/
/-! ### x[i][j] op= e, both lists of one's own -/
end L3
namespace PySem
open Sem (wp)
/-! zip of four, by the cells -/
end PySem
namespace L3
open PySem PySem.Spec PyProof.Rows L2 RZ
/-! zip of three and of four sequences, each a list or a tuple -/
end L3
/-! ranges of whole numbers of any size -/
namespace L3
open PySem PySem.Spec PyProof.Rows L2
end L3
namespace L3
open PySem PySem.Spec PyProof.Rows L2
end L3
set_option maxHeartbeats 1000000
/-! an object with one dict: what is asked of it -/
namespace L3
open PySem PySem.Spec PyProof.Rows L2
def putD (kvs : List (Str × PyData)) (y : Str) (x : PyData) : List (Str × PyData) :=
  if (kvs.any fun p => decide (p.1 = y)) = true then kvs.map (fun p => if p.1 = y then (p.1, x) else p) else kvs ++ [(y, x)]
/-- a dict's entries, as data -/
structure KD (K : PySem.W.Frag) (Z : Hp) (xs : List (Key × V)) (kvs : List (Str × PyData)) : Prop where
  k : xs.map (·.1) = kvs.map (fun p => (.inr p.1 : Key))
  d : DqAll K Z (xs.map (·.2)) (kvs.map (·.2))
theorem KD.nil {K : PySem.W.Frag} {Z : Hp} : KD K Z [] [] := ⟨rfl, .nil⟩
theorem KD.inv {K : PySem.W.Frag} {Z : Hp} {xs : List (Key × V)} {p : Str × PyData} {kvs : List (Str × PyData)} (h : KD K Z xs (p :: kvs)) : ∃ v ys, xs = (.inr p.1, v) :: ys ∧ Dq K Z v p.2 ∧ KD K Z ys kvs := by
  obtain ⟨h1, h2⟩ := h
  cases xs with
  | nil => cases h1
  | cons x ys =>
    obtain ⟨k, v⟩ := x
    rw [List.map_cons, List.map_cons] at h1 h2
    injection h1 with e1 e2
    cases h2 with
    | cons d1 d2 =>
      have e1 : k = .inr p.1 := e1
      subst e1
      exact ⟨v, ys, rfl, d1, e2, d2⟩
theorem valV_any' {y : Str} : ∀ {kvs : List (Str × PyData)} {xs : List (Key × V)}, xs.map (·.1) = kvs.map (fun p => (.inr p.1 : Key)) → (xs.any fun kv => decide (kv.1 = (.inr y : Key))) = kvs.any fun p => decide (p.1 = y)
  | [], xs, h => by
    have : xs = [] := by simpa using h
    subst this; rfl
  | p :: kvs, [], h => by cases h
  | p :: kvs, (k, v) :: ys, h => by
    rw [List.map_cons, List.map_cons] at h
    injection h with e1 e2
    have e1 : k = .inr p.1 := e1
    subst e1
    rw [List.any_cons, List.any_cons, valV_any' e2]
    congr 1
    by_cases e : p.1 = y
    · rw [decide_eq_true e, decide_eq_true (by rw [e])]
    · rw [decide_eq_false e, decide_eq_false fun q => e (Sum.inr.inj q)]
theorem KD.repl {K : PySem.W.Frag} {Z : Hp} {y : Str} {x : PyData} {v : V} (dv : Dq K Z v x) : ∀ {kvs : List (Str × PyData)} {xs : List (Key × V)}, KD K Z xs kvs → KD K Z (xs.map fun kv => if kv.1 = (.inr y : Key) then (kv.1, v) else kv) (kvs.map fun p => if p.1 = y then (p.1, x) else p)
  | [], xs, h => by
    have : xs = [] := by have := h.k; simpa using this
    subst this; exact .nil
  | p :: kvs, xs, h => by
    obtain ⟨w, ys, rfl, d, h2⟩ := h.inv
    have ih := KD.repl (y := y) dv h2
    rw [List.map_cons, List.map_cons]
    by_cases e : p.1 = y
    · rw [if_pos (show ((.inr p.1 : Key) = .inr y) by rw [e]), if_pos e]
      exact ⟨by rw [List.map_cons, List.map_cons, ih.k], .cons dv ih.d⟩
    · rw [if_neg (show ¬ ((.inr p.1 : Key) = .inr y) from fun q => e (Sum.inr.inj q)), if_neg e]
      exact ⟨by rw [List.map_cons, List.map_cons, ih.k], .cons d ih.d⟩
theorem DqAll.snoc {K : PySem.W.Frag} {Z : Hp} {v : V} {x : PyData} (dv : Dq K Z v x) : ∀ {vs : List V} {ds : List PyData}, DqAll K Z vs ds → DqAll K Z (vs ++ [v]) (ds ++ [x])
  | [], _, h => by cases h; exact .cons dv .nil
  | _ :: vs, _, h => by cases h with | cons h1 h2 => exact .cons h1 (DqAll.snoc dv h2)
theorem KD.put {K : PySem.W.Frag} {Z : Hp} {y : Str} {x : PyData} {v : V} {kvs : List (Str × PyData)} {xs : List (Key × V)} (h : KD K Z xs kvs) (dv : Dq K Z v x) : KD K Z (putK xs (.inr y : Key) v) (putD kvs y x) := by
  unfold putK putD
  rw [valV_any' h.k]
  split
  · exact h.repl dv
  · exact ⟨by rw [List.map_append, List.map_append, h.k]; rfl, by rw [List.map_append, List.map_append]; exact DqAll.snoc dv h.d⟩
theorem KD.mono {K : PySem.W.Frag} {Z Z' : Hp} {kvs : List (Str × PyData)} {xs : List (Key × V)} (h : KD K Z xs kvs) (e : Sub Z Z') : KD K Z' xs kvs := ⟨h.k, dpa_mono e _ _ h.d⟩
/-- a method that keeps its promise -/
def CalM (P : Program) (w : World) (K : PySem.W.Frag) (mg : Str → Option Value) (base : Heap) (C : Addr) (m : Str) (k : Nat) (ps : List Str) (sp : Sp3) : Prop := ∃ g fd, Meth K C m g ∧ FnOk P w K mg base CX0 k g fd ps (lift K sp) ∧ Binds K fd ps []
theorem CalM.mono {P : Program} {w : World} {K : PySem.W.Frag} {mg : Str → Option Value} {base : Heap} {C : Addr} {m : Str} {j k : Nat} {ps : List Str} {sp : Sp3} (h : CalM P w K mg base C m j ps sp) (l : j ≤ k) : CalM P w K mg base C m k ps sp := by
  obtain ⟨g, fd, a, b, c⟩ := h
  exact ⟨g, fd, a, b.mono l, c⟩
end L3
set_option maxHeartbeats 1000000
/-! a dict of one's own: text keys, data values -/
namespace L3
open PySem PySem.Spec PyProof.Rows L2
end L3
set_option maxHeartbeats 1000000
/-! an exception that leaves a list comprehension -/
namespace L2
open PySem PySem.Spec PyProof.Rows
theorem noteFrame_frame {e : Value} {env env' : Env} (h : env.frame = env'.frame) : noteFrame e env = noteFrame e env' := by
  unfold noteFrame PySem.frameOf
  rw [h]
theorem funFrames_sub {h h' B B' : Heap} (hB : ∀ b, B.get? b = none → B'.get? b = none) : ∀ {l : List Env}, (∀ b o, b ∈ frs l → h.get? b = some o → h'.get? b = some o) → h.FunFrames B l → h'.FunFrames B' l
  | [], _, _ => trivial
  | env :: l, hk, ⟨h1, ⟨L, o, e1, e2, e3, e4⟩, h3⟩ => by
    have m : L ∈ frs (env :: l) := by unfold frs; rw [List.filterMap_cons, e1]; exact List.mem_cons_self
    refine ⟨h1, ⟨L, o, e1, hB L e2, hk L o m e3, e4⟩, funFrames_sub hB (fun b o hb => hk b o ?_) h3⟩
    unfold frs at hb ⊢
    rw [List.filterMap_cons, e1]
    exact List.mem_cons_of_mem _ hb
section
variable {X : Cx} {pins : List (Addr × Obj)} {σ : St} {H : Hp} {s s' : Shared} {W : WX} {E : XK} {C : Addr} {cenv : Env} {m : Str → Option Value}
theorem comp_raise (hs : X.stack = X.env :: X.outer) (hf : X.env.frame = some X.env.locals) (tk : Takes X W) (I : Inv X pins σ H s) (hn : s.heap.Ns C m) (fC : FpOk X pins H C)
    (hcl : cenv.locals = C) (hcf : cenv.frame = X.env.frame) (hW : ∀ cls d H', E cls d H' → W cls d σ H') {u : Value} (c : CX X.prog X.w X.stack H s E u s') :
    notedBy (model X.prog X.w) X.A cenv (fun u s'' => CompFails (model X.prog X.w) X.A X.xe cenv u s'') u s' := by
  obtain ⟨a, B, H', cls, d, rfl, fl, hok, ub, na, os, ag, hE⟩ := c
  obtain ⟨f0, f1, f2, f3, f4, f5⟩ := id fC
  have hfr : X.A.frames = some (X.env :: X.outer) := by rw [I.ok.frames, hs]
  have nfr : C ∉ frs X.stack := fun hm => (List.mem_cons.mp (I.stkSub C hm)).elim f1 f2
  obtain ⟨oC, esC, epC, hoC, rC⟩ := hn
  have bC : B.get? C = some oC := ub.keep C oC hoC f0 nfr
  -- the ground without the block's names
  obtain ⟨B', b1, b2⟩ := restrict B fun b => decide (b ≠ C)
  have bB : ∀ b, b ≠ C → B'.get? b = B.get? b := fun b h => b1 b (decide_eq_true h)
  have bN : B'.get? C = none := b2 C (decide_eq_false fun h => h rfl)
  have bSub : ∀ b o, B'.get? b = some o → b ≠ C ∧ B.get? b = some o := fun b o e => by
    by_cases h : b = C
    · rw [h, bN] at e; cases e
    · exact ⟨h, by rw [← bB b h]; exact e⟩
  have aC : a ≠ C := fun h => by have := fl.2.1; rw [h, bC] at this; cases this
  unfold notedBy
  rw [noteFrame_frame (env' := X.env) hcf]
  rw [hs] at fl
  refine HandSPX.looks_onZ Zc.steady hfr hf fl fun h1 held up => ⟨m, ?_, fun h' m' hn' sb => ?_⟩
  · rw [hcl]
    exact ⟨oC, esC, epC, held.1 C oC bC, rC⟩
  -- the state without it
  have hB' : ∀ b, B.get? b = none → B'.get? b = none := fun b e => by
    cases q : B'.get? b with
    | none => rfl
    | some o => have := (bSub b o q).2; rw [e] at this; cases this
  have keep1 : ∀ b o, b ≠ C → h1.get? b = some o → h'.get? b = some o := fun b o hb e => by rw [sb.2 b (by rw [hcl]; exact hb)]; exact e
  have nfr' : ∀ b, b ∈ frs (X.env :: X.outer) → b ≠ C := fun b hb e => nfr (by rw [hs, ← e]; exact hb)
  obtain ⟨k1, k2, k3, oe, vs, T, oT, ts, he, hz, hd, hv1, hnT, hTe, hT, hdT, h3⟩ := held
  have TC : T ≠ C := fun e => by rw [e, bC] at hnT; cases hnT
  have held' : HandSPX.HeldZ B' (X.env :: X.outer) a (Zc cls d) X.env.locals h' :=
    ⟨fun b o e => keep1 b o (bSub b o e).1 (k1 b o (bSub b o e).2), hB' a k2, funFrames_sub hB' (fun b o hb e => keep1 b o (nfr' b hb) e) k3, oe, vs, T, oT, ts, keep1 a oe aC he, hz, hd, hv1, hB' T hnT, hTe, keep1 T oT TC hT, hdT, h3⟩
  -- the outer state at the call, without the block's names
  obtain ⟨Gs, d1, d2⟩ := restrict s.heap fun b => decide (b ≠ C)
  have dS : ∀ b o, Gs.get? b = some o → b ≠ C ∧ s.heap.get? b = some o := fun b o e => by
    by_cases h : b = C
    · rw [h, d2 C (decide_eq_false fun h => h rfl)] at e; cases e
    · exact ⟨h, by rw [← d1 b (decide_eq_true h)]; exact e⟩
  have Ih : Inv X pins σ H { s with heap := Gs, toks := s.toks } := I.turned (fun b o hb e => by rw [d1 b (decide_eq_true hb)]; exact e) f0 f1 f3 f4 f5
  obtain ⟨G, g1, g2⟩ := restrict s'.heap fun b => (B'.get? b).isSome || decide (b ∈ frs X.stack)
  have stB : ∀ b o, B'.get? b = some o → s'.heap.get? b = some o := fun b o e => fl.1 b o (bSub b o e).2
  have gB : ∀ b o, B'.get? b = some o → G.get? b = some o := fun b o e => by
    rw [g1 b (by simp [e])]
    exact stB b o e
  have gF : ∀ b, b ∈ frs X.stack → G.get? b = s'.heap.get? b := fun b hb => g1 b (by simp [hb])
  have og : ∀ b o, G.get? b = some o → s'.heap.get? b = some o ∧ ((B'.get? b).isSome = true ∨ b ∈ frs X.stack) := fun b o e => by
    cases q : ((B'.get? b).isSome || decide (b ∈ frs X.stack)) with
    | false => rw [g2 b q] at e; cases e
    | true =>
      rw [g1 b q] at e
      exact ⟨e, by simpa [Bool.or_eq_true] using q⟩
  have nC : ∀ b o, G.get? b = some o → b ≠ C := fun b o e h => by
    rcases (og b o e).2 with z | z
    · rw [h, bN] at z; cases z
    · rw [h] at z; exact nfr z
  have hC' : H' C = none := ub.free C oC hoC f0
  have hokB : HOk X.prog X.w H' B' := fun b o e => (hok b o e).stay (fun c v hc q => by
      have : c ≠ C := fun z => by
        rcases hc with y | y
        · rw [← y, z, hC'] at e; cases e
        · rw [z, hC'] at y; cases y
      rw [bB c this]; exact q) (fun _ q => q) fun _ _ q => q
  have J : Inv X pins σ H' { ({ s with heap := Gs, toks := s.toks } : Shared) with heap := G, gens := s'.gens, drawn := s'.drawn, toks := s'.toks } := by
    refine Ih.call (ch := []) ⟨fun b o e n hb _ => ?_, fun b o e n hb _ => ?_, fun b o e n _ => ub.free b o (dS b o e).2 n, fun b o e _ => ?_, ub.tups, ub.frzs, ub.tbls⟩ (hokB.kept gB) ag (fun _ z => nomatch z)
    · have := ub.keep b o (dS b o e).2 n hb
      exact gB b o (by rw [bB b (dS b o e).1]; exact this)
    · obtain ⟨sl, q⟩ := ub.slot b o (dS b o e).2 hb
      exact ⟨sl, by rw [gF b hb]; exact q⟩
    · by_cases hb : b ∈ frs X.stack
      · obtain ⟨sl, q⟩ := ub.slot b o (dS b o e).2 hb
        exact ⟨_, by rw [gF b hb]; exact q⟩
      · obtain ⟨o', q⟩ := ub.there b o (dS b o e).2 hb
        exact ⟨o', gB b o' (by rw [bB b (dS b o e).1]; exact q)⟩
  have nb : ∀ b o, G.get? b = some o → b ∉ frs X.stack → B'.get? b = some o := fun b o e hb => by
    obtain ⟨e', h⟩ := og b o e
    rcases h with h | h
    · obtain ⟨o', q⟩ := Option.isSome_iff_exists.mp h
      have z := stB b o' q
      rw [e'] at z; cases z
      exact q
    · exact absurd h hb
  unfold PySem.passOn
  refine wpAny_bind (wpAny_field (keep1 a oe aC he) hd hv1 ?_)
  rw [if_neg (show ¬ ((Value.ref T == Value.none) = true) from by simp)]
  have fin : wpAny (model X.prog X.w) X.A (setFlight (.ref a) cenv.frame) (fun _ s4 => wpAny (model X.prog X.w) X.A (throw (.ref a) : Sem Value) (fun _ _ => False) X.xe s4) X.xe { s' with heap := h' } := by
    rw [hcf, hf]
    refine HandSPX.setFlight_onZ held' fun h4 hh4 up4 => wpAny_throw (tk _ _ ?_)
    refine ⟨a, B', _, pins, σ, H', cls, d, rfl, J, nb, fun b o e hnf => ?_, .inr (.inr (by rw [hs]; exact hh4)), na, os, ag, hW _ _ _ hE⟩
    obtain ⟨sl, e1⟩ := up b o (og b o e).1 hnf
    have e2 := keep1 b _ (nC b o e) e1
    obtain ⟨sl2, e3⟩ := up4 b _ e2 hnf
    exact ⟨sl2, e3⟩
  first
    | exact wpAny_bind (wpAny_pure (wpAny_bind fin))
    | exact wpAny_bind fin
end
/-- a list comprehension whose element may raise; te knows the frame's values at the start -/
def tLcX (wi : TI) (g : TG) (te : St → TE) (js : List Nat) : TE := fun σ H Q => wi σ H fun J H1 => ∀ D, H1 D = none → ∃ Wk : Nat → Nat → Hp → Prop, (∃ m, Wk 0 m (upd H1 D (.lst []))) ∧ ∀ i m H, Wk i m H →
  (J.stop i H ∧ Q (.ref D) H) ∨ (J.go i H ∧ ∃ Nx : Hp → Prop, (∀ H', Nx H' → ∃ m', m' < m ∧ Wk (i + 1) m' H') ∧ ∀ x H', J.yld i H x H' → g x (wipe σ js) H' fun σ2 H2 => wipe σ2 js = wipe σ js ∧
    te σ σ2 H2 fun y H4 => ∃ acc, H4 D = some (.lst acc) ∧ acc.length < sizeLine ∧ Nx (upd H4 D (.lst (acc ++ [y]))))
section
variable {X : Cx} {W : WX}
theorem pe_lcX {elt tg iter : Expr} {scope : Scope} {own : List (Str × Nat)} {pos : Pos} {wi : TI} {g : TG} {te : St → TE} (hst : X.stack = X.env :: X.outer) (hfm : X.env.frame = some X.env.locals) (hc : X.calm = true) (hN : X.N.Nodup) (tk : Takes X W) (hi : PI X tg iter wi) (ok : BlkOk X.N X.env.scope scope own)
    (hg : ∀ (s0 : Shared) (H0 : Hp) (C : Addr) (cl : List (Str × Addr)) (fp : List Addr), PG (X.blk s0 H0 scope (compEnvC scope cl C X.env) fp) tg g)
    (he : ∀ (σ0 : St) (s0 : Shared) (H0 : Hp) (C : Addr) (cl : List (Str × Addr)) (fp : List Addr) (xe : Value → Shared → Prop), (∀ σ', PassesAt (L2.CX X.prog X.w) ((X.blk s0 H0 scope (compEnvC scope cl C X.env) fp).wish xe) σ' fun cls d H' => W cls d σ0 H') → PE ((X.blk s0 H0 scope (compEnvC scope cl C X.env) fp).wish xe) elt (te σ0))
    (hs : ∀ x, foldedSetIterable iter X.env x = pure x := by intro _; rfl) : PE X (.ListComp elt [⟨tg, iter, [], 0⟩] scope pos) (tLcX wi g te (own.map (·.2))) := by
  refine ⟨fun pins s σ H Q I h => ?_⟩
  rw [eval_ListComp]
  have free : ∀ y ∈ scope.names, y.2 = .free → ∃ c, X.env.cells.lookup y.1 = some c := fun y hy e => (ok.free y hy e).elim (fun k => I.ok.has _ (.inl k)) fun k => I.ok.has _ (.inr k)
  refine comprehension_at (use := none) rfl hs (closure_ok free) ok.kind (fun y hy e => by rw [ok.uniq y hy, e]) (thn (hi.run pins s σ H _ I h) fun v1 s1 k1 => thn k1 fun v2 s2 k2 => ?_)
  obtain ⟨it, fp, tn, J, H2, rfl, I2, T, t2, f2, q⟩ := k2
  refine wpAny_newObj_type (newEnv_comp ?_) (by show 0 ≤ sizeLine; decide)
  -- the list at D, the block's names at C
  obtain ⟨D, hD⟩ : ∃ D, s2.heap.objs.size = D := ⟨_, rfl⟩
  rw [hD]
  obtain ⟨Wk, ⟨m0, w0⟩, turn⟩ := q D (I2.hok.fresh (Nat.le_of_eq hD))
  obtain ⟨s3, hs3⟩ : ∃ s3 : Shared, s3 = { s2 with heap := s2.heap.push { cls := .type "list", data := .seq ([] : List Value).toArray } } := ⟨_, rfl⟩
  have h3 : s3.heap = s2.heap.push { cls := .type "list", data := .seq ([] : List Value).toArray } := by rw [hs3]
  have I3 : Inv X pins σ (upd H2 D (.lst [])) s3 := by
    rw [hs3, ← hD]
    exact I2.laid (t' := s2.toks) (fun b o e => Heap.get?_push_of_some _ e) (Nat.le_refl _) ⟨Nat.zero_le _, [], 0, .nil, Heap.get?_push_size _ rfl⟩
  have lt2 : ∀ b ∈ fp, b < s2.heap.objs.size := fun b hb => by
    obtain ⟨o, e, _⟩ := T.obj _ _ t2 b hb
    exact Heap.lt_size e
  have f3 : ∀ b ∈ fp, FpOk X pins (upd H2 D (.lst [])) b ∧ b < s3.heap.objs.size := fun b hb => by
    have l := lt2 b hb
    refine ⟨⟨?_, (f2 b hb).2⟩, by rw [h3, Heap.size_push]; exact Nat.lt_succ_of_lt l⟩
    rw [upd_ne (by rw [← hD]; exact Nat.ne_of_lt l)]
    exact (f2 b hb).1
  have t3 : tn 0 s3.heap := T.keep _ _ _ t2 fun b _ o e => by rw [h3]; exact Heap.get?_push_of_some _ e
  have I4 := block_start I3 ok hN f3
  rw [← hs3]
  obtain ⟨H3, hH3⟩ : ∃ H3, H3 = upd H2 D (.lst []) := ⟨_, rfl⟩
  rw [← hH3] at I3 I4 f3 w0
  obtain ⟨cl, hcl⟩ : ∃ cl, cl = cellsFrom (s3.heap.objs.size + 1) scope.names (cloFrom X.env.cells scope.names []) := ⟨_, rfl⟩
  rw [← hcl] at I4
  obtain ⟨s4, hs4⟩ : ∃ s4 : Shared, s4 = { s3 with heap := pushCells (s3.heap.push { cls := .type "dict", data := .dict #[] }) scope.names } := ⟨_, rfl⟩
  rw [← hs4] at I4
  obtain ⟨C, hC⟩ : ∃ C, C = s3.heap.objs.size := ⟨_, rfl⟩
  rw [← hC] at I4
  have t4 : tn 0 s4.heap := T.keep _ _ _ t3 fun b _ o e => by rw [hs4]; exact pushCells_keeps _ _ _ _ (Heap.get?_push_of_some _ e)
  show codeAny (model X.prog X.w) X.A (.compStart (.ListComp elt [⟨tg, iter, [], 0⟩] scope pos) 0 (.ref it) (.ref D) (compEnvC scope (cellsFrom (s3.heap.objs.size + 1) scope.names (cloFrom X.env.cells scope.names [])) s3.heap.objs.size X.env)) (compEnds (model X.prog X.w) X.A X.xe none (EP X pins σ Q) (.ref D) (compEnvC scope (cellsFrom (s3.heap.objs.size + 1) scope.names (cloFrom X.env.cells scope.names [])) s3.heap.objs.size X.env)) { s3 with heap := pushCells (s3.heap.push { cls := .type "dict", data := .dict #[] }) scope.names }
  rw [← hs4, ← hcl, ← hC]
  obtain ⟨ce, hce⟩ : ∃ ce, ce = compEnvC scope cl C X.env := ⟨_, rfl⟩
  have ceL : ce.locals = C := by rw [hce]; rfl
  have ceF : ce.frame = X.env.frame := by rw [hce]; rfl
  rw [← hce] at I4 ⊢
  have hg' := hg s3 H3 C cl fp
  rw [← hce] at hg'
  -- out of the block again
  have out : ∀ {pins' : List (Addr × Obj)} {σ' : St} {H' : Hp} {s' : Shared}, Inv (X.blk s3 H3 scope ce fp) pins' σ' H' s' → Inv X pins σ H' s' ∧ FpOk X pins H' C ∧ ∃ m, s'.heap.Ns C m := fun {pins' σ' H' s'} I' => by
    have nC : H' C = none := by
      have z : H' ce.locals = none := I'.free
      rw [ceL] at z
      exact z
    obtain ⟨m, hn, _⟩ := I'.loc
    have hn : s'.heap.Ns ce.locals m := hn
    rw [ceL] at hn
    exact ⟨I3.call' (ch := fp) I'.os I'.base I'.hok I'.bare fun b hb => ⟨(f3 b hb).1.2.2.2.1, (f3 b hb).1.2.1, (f3 b hb).1.2.2.2.2.1, (f3 b hb).1.2.2.2.2.2⟩, I3.fpOk (Nat.le_of_eq hC.symm) nC, m, hn⟩
  have nfp : ∀ b ∈ fp, H3 b = none := fun b hb => (f3 b hb).1.1
  have stat : ∀ {σ' : St} {H' : Hp} {s' : Shared}, Inv (X.blk s3 H3 scope ce fp) [] σ' H' s' → (∀ b ∈ fp, H' b = none) → ∀ b ∈ fp, FpOk (X.blk s3 H3 scope ce fp) [] H' b := fun {σ' H' s'} I' hn b hb =>
    ⟨hn b hb, (I'.ok.exf b hb).1, I'.ok.exfs b hb, .inl hb, fun x c e => (I'.ok.exf b hb).2 x c e, fun p hp => absurd (show p ∈ ([] : List (Addr × Obj)) ++ [] from hp) (by simp)⟩
  have loop : codeAny (model X.prog X.w) X.A (.compLoop (.ListComp elt [⟨tg, iter, [], 0⟩] scope pos) 0 (.ref it) (.ref D) ce) (compEnds (model X.prog X.w) X.A X.xe none (EP X pins σ Q) (.ref D) ce) s4 := by
    refine compLoop_any (fun n s' => ∃ i H', Inv (X.blk s3 H3 scope ce fp) [] (wipe σ (own.map (·.2))) H' s' ∧ tn i s'.heap ∧ (∀ b ∈ fp, H' b = none) ∧ Wk i n H') ?_ m0 ⟨0, H3, I4, t4, nfp, w0⟩
    rintro n s5 ⟨i, H5, I5, t5, n5, w5⟩
    rcases turn i n H5 w5 with ⟨stop, qq⟩ | ⟨go, Nx, hNx, step⟩
    · refine thnF (T.done (X.blk s3 H3 scope ce fp) rfl rfl rfl hc i [] s5 _ H5 (fun _ _ => False) I5 (stat I5 n5) t5 stop) fun r s6 ⟨hr, I6⟩ => ?_
      subst hr
      obtain ⟨I7, f7, m, hn⟩ := out I6
      refine ⟨m, by rw [ceL]; exact hn, fun h'' sb => ?_⟩
      rw [ceL] at sb
      obtain ⟨e0, e1, e2, e3, e4, e5⟩ := f7
      exact ⟨.ref D, H5, I7.turned (t' := s6.toks) (fun b o hb e => (sb.2 b hb).trans e) e0 e1 e3 e4 e5, rfl, qq⟩
    · refine thnF (T.item (X.blk s3 H3 scope ce fp) rfl rfl rfl hc i [] s5 _ H5 (fun _ _ => False) I5 (stat I5 n5) t5 go) fun r s6 ⟨u, hr, k6⟩ => ?_
      subst hr
      refine thnF k6 fun _ s7 ⟨x, H7, I7, r7, y7, t7, n7⟩ => ?_
      have P7 := I7.pinned (stat I7 n7) (T.obj _ _ t7)
      refine thnF (hg'.run _ s7 _ H7 x u _ P7 r7 (step x H7 y7)) fun _ s8 ⟨σ8, H8, I8, hw8, q8⟩ => ?_
      refine wpAny_tests_nil ?_
      rw [if_pos rfl]
      have fin : ∀ {s' : Shared} {H' : Hp}, Inv (X.blk s3 H3 scope ce fp) ([] ++ pinsAt fp s7.heap) σ8 H' s' → Nx H' → ∃ m, m < n ∧ ∃ i H', Inv (X.blk s3 H3 scope ce fp) [] (wipe σ (own.map (·.2))) H' s' ∧ tn i s'.heap ∧ (∀ b ∈ fp, H' b = none) ∧ Wk i m H' := fun {s' H'} I' nx => by
        obtain ⟨m', hm, w'⟩ := hNx H' nx
        have pin' : ∀ b ∈ fp, ∀ o, s7.heap.get? b = some o → s'.heap.get? b = some o ∧ H' b = none := fun b hb o e =>
          have z := I'.pin (b, o) (List.mem_append_right _ (List.mem_append_right _ (mem_pinsAt hb e)))
          ⟨z.1, z.2.1⟩
        refine ⟨m', hm, i + 1, H', (I'.unpinned (pins := [])).weak (by rw [← hw8, wipe_length]) (fun j v e => ?_), T.keep _ _ _ t7 fun b hb o e => (pin' b hb o e).1, fun b hb => ?_, w'⟩
        · rw [← hw8] at e
          exact (wipe_some e).1
        · obtain ⟨o, e, _⟩ := T.obj _ _ t7 b hb
          exact (pin' b hb o e).2
      have pe := he σ s3 H3 C cl fp (notedBy (model X.prog X.w) X.A ce fun e s' => compEnds (model X.prog X.w) X.A X.xe none (EP X pins σ Q) (.ref D) ce (.error e) s') fun σ' pins' H' s' e s'' I' c => by
        rw [← hce] at I'
        obtain ⟨J7, fC, m, hn⟩ := out I'.unwish
        exact comp_raise hst hfm tk J7 hn fC ceL ceF (fun _ _ _ h => h) c
      rw [← hce] at pe
      refine thn (pe.run _ s8 σ8 H8 _ (I8.wish _) q8) fun z s9 ⟨yv, H9, I9, r9, acc, hD9, hz9, nx⟩ => ?_
      exact app_ok (X := X.blk s3 H3 scope ce fp) I9.unwish hD9 hz9 r9 fun s10 I10 => fin I10 nx
  exact codeAny_compStart_list loop (T.self X.A 0 _ _ _ t4 loop)
end
end L2
set_option maxHeartbeats 1000000
/-! [f(e, ..) for x in it] where f may raise -/
namespace L3
open PySem PySem.Spec PyProof.Rows L2
def xLcX (w : TI3) (g : TG3) (sp : Sp3) (u : TC3) (js : List Nat) : TX3 := fun r Q E => w r fun items r1 => ∀ p, ∃ Wk : Nat → List T → Rho → Prop, Wk 0 [] (wp r1 js) ∧
  (∀ i x acc r, items[i]? = some x → Wk i acc r → g (.d x) r fun r2 => xCallX sp u r2 (fun y r4 => acc.length < sizeLine ∧ Wk (i + 1) (acc ++ [y]) (wp r4 js)) (fun C r4 => E C (wp r4 js))) ∧
  ∀ acc r, Wk items.length acc r → Q (.own p acc) r
def lowX (K : PySem.W.Frag) (sp : Sp3) (u : TC3) (W : WX) (σ0 : L2.St) : TE := fun σ H Q => ∃ (G Z : Hp) (ks : List T) (vs : List V) (r : Rho) (Q3 : T → Rho → Prop) (E3 : Addr → Rho → Prop), S3 K G Z H ks vs r σ ∧ xCallX sp u r Q3 E3 ∧
  (∀ Z' H' x v r', Gr G Z Z' → S3 K G Z' H' (x :: ks) (v :: vs) r' σ → Q3 x r' → Q v H') ∧ ∀ Z' H' C r', Gr G Z Z' → S3 K G Z' H' ks vs r' σ → E3 C r' → W (.ref C) none σ0 H'
section
variable {X : Cx} {tg iter e : Expr} {es : List Expr} {scope : Scope} {own : List (Str × Nat)} {pos cpos fp_ : Pos} {w : TI3} {g : TG3} {sp : Sp3} {u : TC3} {js : List Nat} {x : Str} {k : Nat} {ps : List Str}
theorem lcx_run {W : WX} {wi : TI} (si : ∀ (G Z H : Hp) (ks : List T) (vs : List V) (r : Rho) (s : L2.St) (R : It → Hp → Prop) (Q3 : List PyData → Rho → Prop), S3 X.K G Z H ks vs r s → w r Q3 →
    (∀ Z' H' J items r', Gr G Z Z' → S3 X.K G Z' H' ks vs r' s → Walks X.K Z' J items → Q3 items r' → R J H') → wi s H R) (hj : ∀ j ∈ js, j ∈ own.map (·.2)) {G Z H : Hp} {ks : List T} {vs : List V} {r : Rho} {s : L2.St} {Q : VK} {Q3 : T → Rho → Prop} {E3 : Addr → Rho → Prop} (st : S3 X.K G Z H ks vs r s) (ht : xLcX w g sp u (own.map (·.2)) r Q3 E3)
    (kq : ∀ Z' H' x v r', Gr G Z Z' → S3 X.K G Z' H' (x :: ks) (v :: vs) r' s → Q3 x r' → Q v H') (ke : ∀ Z' H' C r', Gr G Z Z' → S3 X.K G Z' H' ks vs r' s → E3 C r' → W (.ref C) none s H') :
    tLcX wi (lowG X.K js g) (lowX X.K sp u W) (own.map (·.2)) s H Q := by
  refine si G Z H ks vs r s _ _ st ht fun Z0 H0 J items r0 g0 st0 wk q D hD => ?_
  obtain ⟨Wk, w0, turn, done⟩ := q D
  have stw : S3 X.K G Z0 H0 ks vs (wp r0 (own.map (·.2))) (L2.wipe s (own.map (·.2))) := st0.wipes _
  have st1 : S3 X.K G Z0 (upd H0 D (.lst [])) (.own D [] :: ks) (.ref D :: vs) (wp r0 (own.map (·.2))) (L2.wipe s (own.map (·.2))) := S3.mkOwn (l := []) (xs := []) stw rfl hD
  refine ⟨fun i m H => m = items.length - i ∧ i ≤ items.length ∧ ∃ Z' r acc, Gr G Z0 Z' ∧ S3 X.K G Z' H (.own D acc :: ks) (.ref D :: vs) r (L2.wipe s (own.map (·.2))) ∧ Wk i acc r, ⟨_, rfl, Nat.zero_le _, Z0, _, [], Gr.refl _ _, st1, w0⟩, ?_⟩
  rintro i m H1 ⟨rfl, hi, Z1, r1, acc, g1, st1, w1⟩
  by_cases hlt : i < items.length
  · obtain ⟨go, y⟩ := (wk Z1 H1 i g1.sub st1.zh).1 items[i] (List.getElem?_eq_getElem hlt)
    refine .inr ⟨go, fun H' => ∃ Z' r acc, Gr G Z0 Z' ∧ S3 X.K G Z' H' (.own D acc :: ks) (.ref D :: vs) r (L2.wipe s (own.map (·.2))) ∧ Wk (i + 1) acc r, fun H' h => ⟨items.length - (i + 1), by omega, rfl, hlt, h⟩, fun x H' yx => ?_⟩
    obtain ⟨Z2, g2, st2⟩ := (y x H' yx).st st1
    refine ⟨G, Z2, _, _, r1, _, _, st2, turn i _ acc r1 (List.getElem?_eq_getElem hlt) w1, fun Z3 H3 r3 s3 g3 st3 l3 e3 q3 => ?_⟩
    have ew : wipe s3 (own.map (·.2)) = wipe s (own.map (·.2)) := by
      have : wipe s3 (own.map (·.2)) = wipe (L2.wipe s (own.map (·.2))) (own.map (·.2)) := wipe_same l3 fun i hi => e3 i fun z => hi (hj i z)
      rw [this]
      exact wipe_same (wipe_length _ _) fun i hi => wipe_out hi
    have gg := (g1.trans g2).trans g3
    refine ⟨ew, G, Z3, _, _, r3, _, _, st3, q3, fun Z5 H5 y v r5 g5 st5 q5 => ?_, fun Z5 H5 C r5 g5 st5 q5 => ?_⟩
    · obtain ⟨xs, e1, e2, e3', e4, _⟩ := st5.ownAt
      have st6 := st5.write (l' := acc ++ [y]) (xs' := xs ++ [v]) (rts_snoc e2 e3') (fun b => by rw [cts_append]; simp only [cts]; omega)
      have st7 := st6.wipes (own.map (·.2))
      rw [ew] at st7
      exact ⟨xs, e1, by rw [← rts_len e2]; exact q5.1, Z5, _, _, gg.trans g5, st7, q5.2⟩
    · have st6 := st5.pop.wipes (own.map (·.2))
      rw [ew] at st6
      exact ke Z5 H5 C _ ((g0.trans gg).trans g5) st6.unwipe q5
  · have e : i = items.length := by omega
    subst e
    exact .inl ⟨(wk Z1 H1 _ g1.sub st1.zh).2 (Nat.le_refl _), kq Z1 H1 _ _ r1 (g0.trans g1) st1.unwipe (done acc r1 w1)⟩
theorem p3w_lcX (c : CalX X.prog X.w X.K X.mg X.base x k ps sp) (hr : Room k X.A) (hc : X.calm = true) (hN : X.N.Nodup) (hi : I3 X tg iter w) (ok : BlkOk X.N X.env.scope scope own) (hj : ∀ j ∈ js, j ∈ own.map (·.2))
    (hgl : ∀ (s : Shared) (H : Hp) (C : Addr) (cl : List (Str × Addr)) (fp : List Addr) (xe : Value → Shared → Prop), Gl ((X.blk s H scope (compEnvC scope cl C X.env) fp).wish xe) x)
    (hg : ∀ (s : Shared) (H : Hp) (C : Addr) (cl : List (Str × Addr)) (fp : List Addr), G3 (X.blk s H scope (compEnvC scope cl C X.env) fp) tg js g)
    (hu : ∀ (s : Shared) (H : Hp) (C : Addr) (cl : List (Str × Addr)) (fp : List Addr) (xe : Value → Shared → Prop), C3 ((X.blk s H scope (compEnvC scope cl C X.env) fp).wish xe) (e :: es) u)
    (hst : X.stack = X.env :: X.outer := by rfl) (hfm : X.env.frame = some X.env.locals := by rfl)
    (hdb : (x == ("__debug__" : Str)) = false := by decide) (h1 : ∀ env, starEach (e :: es) env = (false, eval e env) :: starEach es env := by intro _; rfl) (h2 : ∀ env, (backTo cpos (starEach es env)).any (·.1) = false := by intro _; rfl) (hs : ∀ x, foldedSetIterable iter X.env x = pure x := by intro _; rfl) :
    P3W X (.ListComp (.Call (.Name x fp_) (e :: es) [] cpos) [⟨tg, iter, [], 0⟩] scope pos) (xLcX w g sp u (own.map (·.2))) := by
  refine ⟨fun W tk => ?_⟩
  obtain ⟨wi, ei, si⟩ := hi.ex
  obtain ⟨f, fd, F, hm, hk, hb⟩ := c
  refine ⟨_, pe_lcX (te := lowX X.K sp u W) hst hfm hc hN tk ei ok (fun s H C cl fp => (hg s H C cl fp).low) (fun σ0 s H C cl fp xe hx => ?_) hs, fun G Z H ks vs r s Q Q3 E3 st h kq ke => lcx_run si hj st h kq ke⟩
  obtain ⟨ta, ea, sa⟩ := (hu s H C cl fp xe).ex
  have pe := pe_callS (X := (X.blk s H scope (compEnvC scope cl C X.env) fp).wish xe) (p := fp_) (pos := cpos) F hr (hgl s H C cl fp xe) hm hk hb hx ea hdb (h1 _) (h2 _)
  exact ⟨fun pins s' σ H' Q I ⟨G, Z, ks, vs, r, Q3, E3, st, ht, kq, ke⟩ => pe.run pins s' σ H' Q I (sa G Z H' ks vs r σ _ _ st ht fun Z1 H1 as us r1 g1 st1 hp q =>
    callx_run st1 hp q (fun Z2 H2 y v r2 g2 => kq Z2 H2 y v r2 (g1.trans g2)) fun Z2 H2 A r2 g2 => ke Z2 H2 A r2 (g1.trans g2))⟩
end
section
variable {X : Cx} {a b : Expr} {pos p : Pos} {t ta tb : TX3} {tr : TE3}
/-- tuple(..) of what may raise -/
def xTupX (t : TX3) : TX3 := fun r Q E => t r (fun y r1 => nv y = true ∧ ∃ l, fz y = .list l ∧ Q (.d (.tuple l)) r1) E
theorem p3w_tupleX (hg : Gl X "tuple") (hm : X.mg "tuple" = none) (ha : P3W X a t) (he : starEach [a] X.env = (false, eval a X.env) :: starEach [] X.env := by rfl) (hpl : (backTo pos (starEach [] X.env)).any (·.1) = false := by rfl) :
    P3W X (.Call (.Name "tuple" p) [a] [] pos) (xTupX t) := by
  refine ⟨fun W tk => ?_⟩
  obtain ⟨tea, ea, sa⟩ := ha.ex W tk
  refine ⟨_, pe_callTy call_tuple_of hg hm boot_tuple (pa_cons ea pa_nil he) (by decide) (by decide) he hpl, fun G Z H ks vs r s Q Q3 E3 st ht kq ke => sa G Z H ks vs r s _ _ _ st ht (fun Z1 H1 x v r1 g1 st1 q => ?_) ke⟩
  obtain ⟨n, l, el, q⟩ := q
  obtain ⟨Z2, g2, st2⟩ := st1.freezeG n
  rw [el] at st2
  have top := st2.top
  cases top with
  | d dl =>
    refine con_tup G Z2 H1 ks vs r1 s v (.d (.list l)) Q (fun y r2 => y = .d (.tuple l) ∧ Q3 y r2) st2.pop dl ⟨rfl, q⟩ fun Z3 H3 y u r3 g3 st3 pv q3 => ?_
    obtain ⟨rfl, q3⟩ := q3
    exact kq Z3 H3 _ u r3 ((g1.trans g2).trans g3) (st3.pushD pv) q3
/-- a * .. of what may raise -/
def xMulX (tr : TE3) (t : TX3) : TX3 := fun r Q E => tr r fun x r1 => asI x fun i => t r1 (fun y r2 => ∃ j, y = .d (.int j) ∧ MulOk i j ∧ Q (.d (.int (i * j))) r2) E
theorem p3w_mul (ha : R3 X a tr) (hb : P3W X b t) : P3W X (.BinOp a .Mult b pos) (xMulX tr t) := by
  refine ⟨fun W tk => ?_⟩
  obtain ⟨tea, ea, sa⟩ := ha.ex
  obtain ⟨teb, eb, sb⟩ := hb.ex W tk
  refine ⟨_, pe_op op_mul3 ea eb, fun G Z H ks vs r s Q Q3 E3 st ht kq ke => sa G Z H ks vs r s _ _ st ht fun Z1 H1 x v r1 g1 st1 pv q => ?_⟩
  obtain ⟨i, rfl, q⟩ := asI_of q
  obtain rfl := pv.int
  refine sb G Z1 H1 ks vs r1 s _ _ _ st1 q (fun Z2 H2 y u r2 g2 st2 q2 => ?_) fun Z2 H2 C r2 g2 st2 q2 => ke Z2 H2 C r2 (g1.trans g2) st2 q2
  obtain ⟨j, rfl, hm, q2⟩ := q2
  have top := st2.top
  cases top with
  | d dj =>
    cases dj
    exact ⟨i, j, rfl, rfl, hm, kq Z2 H2 _ _ r2 (g1.trans g2) (st2.pop.pushD (Dq.int _)) q2⟩
/-- (.., ..) of what may raise -/
def xTup2X (ta tb : TX3) : TX3 := fun r Q E => ta r (fun x r1 => ∃ d, x = .d d ∧ tb r1 (fun y r2 => ∃ d2, y = .d d2 ∧ Q (.d (.tuple [d, d2])) r2) E) E
theorem p3w_tup2 {x1} (ha : P3W X a ta) (hb : P3W X b tb) (h1 : starEach [a, b] X.env = (false, eval a X.env) :: starEach [b] X.env := by rfl) (h2 : starEach [b] X.env = (false, eval b X.env) :: starEach [] X.env := by rfl) :
    P3W X (.Tuple [a, b] x1 pos) (xTup2X ta tb) := by
  refine ⟨fun W tk => ?_⟩
  obtain ⟨tea, ea, sa⟩ := ha.ex W tk
  obtain ⟨teb, eb, sb⟩ := hb.ex W tk
  refine ⟨_, pe_tup (pa_cons ea (pa_cons eb pa_nil h2) h1), fun G Z H ks vs r s Q Q3 E3 st ht kq ke => sa G Z H ks vs r s _ _ _ st ht (fun Z1 H1 x v r1 g1 st1 q => ?_) ke⟩
  obtain ⟨d, rfl, q⟩ := q
  have top := st1.top
  cases top with
  | d d1 =>
    refine sb G Z1 H1 ks vs r1 s _ _ _ st1.pop q (fun Z2 H2 y u r2 g2 st2 q2 => ?_) fun Z2 H2 C r2 g2 st2 q2 => ke Z2 H2 C r2 (g1.trans g2) st2 q2
    obtain ⟨d', rfl, q2⟩ := q2
    have top2 := st2.top
    cases top2 with
    | d d2 =>
      refine ⟨by show 2 ≤ sizeLine; decide, fun p hp => ?_⟩
      obtain ⟨g3, st3⟩ := st2.pop.laidG (o := .tup [v, u]) hp
      exact kq _ _ (.d (.tuple [d, d'])) _ r2 ((g1.trans g2).trans g3) (st3.pushD (.tup upd_same (.cons (dp_mono (g2.sub.trans g3.sub) _ _ d1) (.cons (dp_mono g3.sub _ _ d2) .nil)))) q2
end
end L3
set_option maxHeartbeats 1000000
/-! sum of a list of lists; count in a text; insert and pop of a list of texts -/
namespace SL
open PySem PySem.Spec PyProof.Rows
section
variable {prog : Program} {w : World} {A : Around} {E : Value → Shared → Prop} {s : Shared}
theorem add_two {a b : Addr} {xs ys : List Value} {Q : Value → Shared → Prop} (ha : PlainL s.heap a xs.toArray) (hb : PlainL s.heap b ys.toArray) (hz : xs.length + ys.length ≤ sizeLine)
    (h : Q (.ref s.heap.objs.size) { s with heap := s.heap.push { cls := .type "list", data := .seq (xs ++ ys).toArray } }) : wpAny (model prog w) A (binaryOp .Add (.ref a) (.ref b)) Q E s := by
  obtain ⟨⟨c1, d1, t1, l1⟩, n, e1, hc1, hd1, ht1⟩ := ha
  obtain ⟨⟨c2, d2, t2, l2⟩, m, e2, hc2, hd2, ht2⟩ := hb
  subst hc1 hd1 ht1 hc2 hd2 ht2
  refine concat_meets ⟨_, e1, rfl⟩ ⟨_, e2, rfl⟩ noFill_list_add seq_list_add F.slot_list_add F.entry_list_add (F.args_list_add_2 _ _) (list_addW a b xs.toArray ys.toArray n m none none l1 l2 (by simpa using hz)) ⟨e1, e2, ?_⟩
  simpa using h
end
/-! the loop: the walked things are the lists at ad i, holding its i -/
section
variable {prog : Program} {w : World} {A : Around} {R : Result → Shared → Prop} {I : Addr} {fp wr : List Addr} {n : Nat} {P : Nat → Value → Prop} {St : Nat → Heap → Prop}
theorem sum_loop (Wk : Walks prog w A.in1 I fp wr n P St) (ad : Nat → Addr) (its : Nat → List Value) (hval : ∀ i v, P i v → v = .ref (ad i)) (S : Addr) (hSf : S ∉ fp) (hne : ∀ j, j < n → ad j ∉ wr ∧ ad j ≠ S) (hStl : ∀ i h, St i h → ∀ b ∈ fp, b < h.objs.size) :
    ∀ (k i : Nat) (s : Shared) (t : Addr) (acc : List Value) (c : Nat), n - i = k → i ≤ n → St i s.heap → s.heap.get? S = some { cls := .type "list", dict := none, data := .seq #[.ref t] c, slots := #[] } → PlainL s.heap t acc.toArray → t ≠ S → t ∉ wr →
      (∀ j, j < n → PlainL s.heap (ad j) (its j).toArray) → acc.length + (((List.range n).drop i).map fun j => (its j).length).sum ≤ sizeLine →
      (∀ h' tk t', (∀ b o, b ∉ wr → b ≠ S → s.heap.get? b = some o → h'.get? b = some o) → PlainL h' t' (acc ++ (((List.range n).drop i).map its).flatten).toArray → (t' = t ∧ i = n ∨ S < t' ∧ ∃ m, h'.get? t' = some { cls := .type "list", dict := none, data := .seq (acc ++ (((List.range n).drop i).map its).flatten).toArray m, slots := #[] }) → R (.ok (.ret (.ref t'))) { s with heap := h', toks := tk }) →
      codeAny (model prog w) A (.builtin "sum.loop" ⟨[.ref I, .ref S, rawInt 2, rawInt 0], []⟩) R s := by
  have hSw : S ∉ wr := fun h => hSf (Wk.sub _ h)
  intro k
  induction k with
  | zero =>
    intro i s t acc c hk hi hst hS ht hts htw hits hz hR
    obtain rfl : i = n := by omega
    refine codeAny_builtin F.entry_sum_loop ?_
    rw [Around.under_plainId F.plain_sum_loop _]
    show wpAny _ A.in1 (seqItems? (.ref S) >>= _) _ _ s
    refine wpAny_bind (wpAny_seqItems hS rfl ?_)
    show wpAny _ A.in1 (tryCatch (pyNext (.ref I)) _ >>= _) _ _ s
    refine wpAny_bind (wpAny_tryCatch (Wk.done s _ _ hst fun h' tk hk' => ?_))
    refine wpAny_pure (hR h' tk t (fun b o hbw _ e => hk' b o hbw e) ?_ (.inl ⟨rfl, rfl⟩))
    rw [List.drop_of_length_le (by rw [List.length_range]; omega)]
    obtain ⟨o, m, e, r⟩ := ht
    simp only [List.map_nil, List.flatten_nil, List.append_nil]
    exact ⟨o, m, hk' t o htw e, r⟩
  | succ k ih =>
    intro i s t acc c hk hi hst hS ht hts htw hits hz hR
    have hlt : i < n := by omega
    have hd : (List.range n).drop i = i :: (List.range n).drop (i + 1) := by
      rw [List.drop_eq_getElem_cons (by rw [List.length_range]; exact hlt), List.getElem_range]
    rw [hd] at hz
    simp only [List.map_cons, List.sum_cons] at hz
    refine codeAny_builtin F.entry_sum_loop ?_
    rw [Around.under_plainId F.plain_sum_loop _]
    show wpAny _ A.in1 (seqItems? (.ref S) >>= _) _ _ s
    refine wpAny_bind (wpAny_seqItems hS rfl ?_)
    show wpAny _ A.in1 (tryCatch (pyNext (.ref I)) _ >>= _) _ _ s
    refine wpAny_bind (wpAny_tryCatch (Wk.item i s _ _ hlt hst fun v h' tk hP hst' hk' => ?_))
    obtain rfl := hval i v hP
    have keepL : ∀ {a : Addr} {vs : List Value}, a ∉ wr → PlainL s.heap a vs.toArray → PlainL h' a vs.toArray := fun {a vs} ha ⟨o, m, e, r⟩ => ⟨o, m, hk' a o ha e, r⟩
    have hS' := hk' S _ hSw hS
    have hlt' : ∀ b o, h'.get? b = some o → b < h'.objs.size := fun b o e => Heap.lt_size e
    show wpAny _ A.in1 ((holding [Value.ref (ad i)] (binaryOp .Add (.ref t) (.ref (ad i)))).attempt >>= _) _ _ _
    refine wpAny_bind (wpAny_attempt (wpAny_holding (add_two (xs := acc) (ys := its i) (keepL htw ht) (keepL (hne i hlt).1 (hits i hlt)) (by omega) ?_)))
    -- the new list
    have hS1 := Heap.get?_push_of_some (h := h') { cls := .type "list", data := .seq (acc ++ its i).toArray } hS'
    have hnS : h'.objs.size ≠ S := Nat.ne_of_gt (hlt' _ _ hS')
    refine wpAny_bind (wpAny_updateSeq hS1 rfl ?_)
    have hS2 := Heap.get?_update_self (Obj.mapSeq fun _ => #[Value.ref h'.objs.size]) hS1 rfl
    refine wpAny_bind (wpAny_letGo ?_)
    refine wpAny_bind (wpAny_updateSeq hS2 rfl (wpAny_pure ⟨plainId_quiet F.plain_sum_loop _, ?_⟩))
    have hS3 := Heap.get?_update_self (Obj.mapSeq fun _ => #[Value.ref h'.objs.size]) hS2 rfl
    have keep3 : ∀ b o, b ≠ S → h'.get? b = some o → ((((h'.push { cls := .type "list", data := .seq (acc ++ its i).toArray }).update S (Obj.mapSeq fun _ => #[Value.ref h'.objs.size])).update S (Obj.mapSeq fun _ => #[Value.ref h'.objs.size]))).get? b = some o := fun b o hb e => by
      rw [Heap.get?_update_other _ _ (Ne.symm hb), Heap.get?_update_other _ _ (Ne.symm hb)]
      exact Heap.get?_push_of_some _ e
    have hT : ((((h'.push { cls := .type "list", data := .seq (acc ++ its i).toArray }).update S (Obj.mapSeq fun _ => #[Value.ref h'.objs.size])).update S (Obj.mapSeq fun _ => #[Value.ref h'.objs.size]))).get? h'.objs.size = some { cls := .type "list", data := .seq (acc ++ its i).toArray } := by
      rw [Heap.get?_update_other _ _ (Ne.symm hnS), Heap.get?_update_other _ _ (Ne.symm hnS)]
      exact Heap.get?_push_size _ rfl
    refine ih (i + 1) _ h'.objs.size (acc ++ its i) _ (by omega) (by omega) (Wk.frame _ _ _ hst' fun b hb o e => keep3 b o (fun q => hSf (by rw [← q]; exact hb)) e) hS3 ⟨_, _, hT, rfl, rfl, rfl⟩ hnS (fun q => Nat.lt_irrefl _ (hStl _ _ hst' _ (Wk.sub _ q))) (fun j hj => ?_) (by rw [List.length_append]; omega) fun h2 tk2 t2 hk2 hp2 ht2 => ?_
    · obtain ⟨o, m, e, r⟩ := hits j hj
      exact ⟨o, m, keep3 _ o (hne j hj).2 (hk' _ o (hne j hj).1 e), r⟩
    · refine hR h2 tk2 t2 (fun b o hbw hbS e => hk2 b o hbw hbS (keep3 b o hbS (hk' b o hbw e))) ?_ (.inr ?_)
      · rw [hd, List.map_cons, List.flatten_cons, ← List.append_assoc]
        exact hp2
      · rw [hd, List.map_cons, List.flatten_cons, ← List.append_assoc]
        rcases ht2 with ⟨rfl, e⟩ | h
        · refine ⟨hlt' _ _ hS', 0, hk2 _ _ (fun q => Nat.lt_irrefl _ (hStl _ _ hst' _ (Wk.sub _ q))) hnS ?_⟩
          rw [List.drop_of_length_le (by rw [List.length_range]; omega)]
          simp only [List.map_nil, List.flatten_nil, List.append_nil]
          exact hT
        · exact h
theorem nlt {a b : Nat} (h : a < b) (e : a = b) : False := Nat.ne_of_lt h e
theorem nlt1 {a b c : Nat} (h : a < b) (hc : c = b + 1) (e : a = c) : False := by omega
theorem nself {b c : Nat} (hc : c = b + 1) (e : c = b) : False := by omega
theorem nle {b c t : Nat} (hc : c = b + 1) (h : c < t) : b ≤ t := by omega
theorem sum_args (a b : Value) : argsOk "sum" ⟨[a, b], []⟩ := by unfold argsOk; kernel_rfl
/-- sum(lists, start) of at least one list: a new list -/
theorem sum_lists {E : Value → Shared → Prop} {s : Shared} {A : Around} {l b : Addr} {ads : List Addr} {its : List (List Value)} {st : List Value} {Q : Value → Shared → Prop} (hh : A.handled = none) (hl : PlainL s.heap l (ads.map Value.ref).toArray) (hb : PlainL s.heap b st.toArray)
    (hlen : its.length = ads.length) (hit : ∀ j a, ads[j]? = some a → PlainL s.heap a (its.getD j []).toArray) (hne : ads ≠ []) (hz : st.length + (its.map (·.length)).sum ≤ sizeLine)
    (h : ∀ h' tk t', (∀ c o, s.heap.get? c = some o → h'.get? c = some o) → (∃ m, h'.get? t' = some { cls := .type "list", dict := none, data := .seq (st ++ its.flatten).toArray m, slots := #[] }) → s.heap.objs.size ≤ t' → Q (.ref t') { s with heap := h', toks := tk }) :
    wpAny (model prog w) A (call (.builtin "sum") [.ref l, .ref b]) Q E s := by
  refine call_function_tree F.kind_sum F.plain_sum F.entry_sum (sum_args _ _) ?_
  unfold Builtin.«sum»
  simp only [List.length_cons, List.length_nil]
  rw [if_neg (by decide)]
  refine wpAny_bind (wpAny_of_eq (show Builtin.Builtins.bindParams "sum" ["start"] 0 ⟨[.ref b], []⟩ = pure [some (.ref b)] from rfl) ?_)
  have keep2 : ∀ {a : Addr} {vs : List Value} {o : Obj}, PlainL s.heap a vs.toArray → PlainL (s.heap.push o) a vs.toArray := fun {a vs o} ⟨u, m, e, r⟩ => ⟨u, m, Heap.get?_push_of_some _ e, r⟩
  have lt : ∀ {a : Addr} {vs : List Value}, PlainL s.heap a vs.toArray → a < s.heap.objs.size := fun {a vs} ⟨u, m, e, r⟩ => Heap.lt_size e
  have isl : s.heap.IsList l (ads.map Value.ref).toArray := by
    obtain ⟨o, m, e, c, d, r⟩ := hl
    exact ⟨o, e, c, m, r⟩
  have isb : s.heap.IsList b st.toArray := by
    obtain ⟨o, m, e, c, d, r⟩ := hb
    exact ⟨o, e, c, m, r⟩
  refine wpAny_bind (wpAny_pyIter_list isl ?_)
  have isb2 : (s.heap.push { cls := .type "list_iterator", data := .fields #[.ref l, .int 0 0] }).IsList b st.toArray := isb.push _
  refine wpAny_bind (wpAny_pure ?_)
  simp only [List.forIn_cons, List.forIn_nil]
  refine wpAny_bind (wpAny_bind (wpAny_bind (wpAny_isInstance (T := "list") (b := false) (Heap.IsList.typeIs (s := { s with heap := s.heap.push { cls := .type "list_iterator", data := .fields #[.ref l, .int 0 0] } }) isb2) F.sub_list_str ?_)))
  simp only [Bool.false_eq_true, if_false]
  refine wpAny_pure (wpAny_bind (wpAny_bind (wpAny_isInstance (T := "list") (b := false) (Heap.IsList.typeIs (s := { s with heap := s.heap.push { cls := .type "list_iterator", data := .fields #[.ref l, .int 0 0] } }) isb2) F.sub_list_bytes ?_)))
  simp only [Bool.false_eq_true, if_false]
  refine wpAny_pure (wpAny_bind (wpAny_bind (wpAny_isInstance (T := "list") (b := false) (Heap.IsList.typeIs (s := { s with heap := s.heap.push { cls := .type "list_iterator", data := .fields #[.ref l, .int 0 0] } }) isb2) F.sub_list_bytearray ?_)))
  simp only [Bool.false_eq_true, if_false]
  refine wpAny_pure (wpAny_pure ?_)
  refine wpAny_bind (wpAny_newObj_type ?_)
  have hne' : l ≠ s.heap.objs.size := Nat.ne_of_lt (lt hl)
  have Wk := Walks.list (prog := prog) (w := w) (A := A.in1) hh s.heap.objs.size l hne' (ads.map Value.ref).toArray
  refine wpAny_pure ⟨plainId_quiet F.plain_sum_loop _, ?_⟩
  have hS0 : (s.heap.push { cls := .type "list_iterator", data := .fields #[.ref l, .int 0 0] }).objs.size = s.heap.objs.size + 1 := Heap.size_push ..
  have n0 : (ads.map Value.ref).toArray.size = ads.length := by simp
  have pl : ∀ {a : Addr} {vs : List Value} {o1 o2 : Obj}, PlainL s.heap a vs.toArray → PlainL ((s.heap.push o1).push o2) a vs.toArray := fun {a vs o1 o2} ⟨u, m, e, r⟩ => ⟨u, m, Heap.get?_push_of_some _ (Heap.get?_push_of_some _ e), r⟩
  have hsum : ((List.range ads.length).map fun j => (its.getD j []).length).sum = (its.map (·.length)).sum := by
    rw [← hlen]
    congr 1
    refine List.ext_getElem? fun j => ?_
    rw [List.getElem?_map, List.getElem?_map]
    by_cases hj : j < its.length
    · rw [List.getElem?_range hj, List.getElem?_eq_getElem hj]
      simp [List.getD, List.getElem?_eq_getElem hj]
    · rw [List.getElem?_eq_none (by rw [List.length_range]; omega), List.getElem?_eq_none (by omega)]; rfl
  have hits : (List.range ads.length).map (fun j => its.getD j []) = its := by
    rw [← hlen]
    refine List.ext_getElem? fun j => ?_
    rw [List.getElem?_map]
    by_cases hj : j < its.length
    · rw [List.getElem?_range hj, List.getElem?_eq_getElem hj]
      simp [List.getD, List.getElem?_eq_getElem hj]
    · rw [List.getElem?_eq_none (by rw [List.length_range]; omega), List.getElem?_eq_none (by omega)]; rfl
  refine sum_loop (n := ads.length) (by rw [n0] at Wk; exact Wk) (fun j => ads.getD j 0) (fun j => its.getD j []) (fun i v hv => ?_) _ ?_ (fun j hj => ?_) ?_ ads.length 0 _ b st 0 (Nat.sub_zero _) (Nat.zero_le _) ?_ (Heap.get?_push_size _ rfl) (pl hb) ?_ ?_ (fun j hj => ?_) ?_ fun h' tk t' hk hp ht => ?_
  · have hv2 : (ads.map Value.ref)[i]? = some v := by simpa using hv
    rw [List.getElem?_map] at hv2
    cases e : ads[i]? with
    | none => rw [e] at hv2; cases hv2
    | some a =>
      rw [e] at hv2
      rw [List.getD, e]
      exact (Option.some.inj hv2).symm
  · intro hm
    rcases List.mem_cons.mp hm with q | q
    · exact nself hS0 q
    · exact nlt1 (lt hl) hS0 (List.mem_singleton.mp q).symm
  · have e : ads[j]? = some (ads.getD j 0) := by rw [List.getD, List.getElem?_eq_getElem hj]; rfl
    exact ⟨fun hm => nlt (lt (hit j _ e)) (List.mem_singleton.mp hm), fun q => nlt1 (lt (hit j _ e)) hS0 q⟩
  · intro i h ⟨⟨o1, e1, _⟩, o2, e2, _⟩ c hc
    simp only [List.mem_cons, List.not_mem_nil, or_false] at hc
    rcases hc with rfl | rfl
    · exact Heap.lt_size e1
    · exact Heap.lt_size e2
  · exact ⟨⟨_, Heap.get?_push_of_some _ (Heap.get?_push_size _ rfl), rfl, rfl⟩, (isl.push _).push _⟩
  · exact fun q => nlt1 (lt hb) hS0 q
  · exact fun hm => nlt (lt hb) (List.mem_singleton.mp hm)
  · have e : ads[j]? = some (ads.getD j 0) := by rw [List.getD, List.getElem?_eq_getElem hj]; rfl
    exact pl (hit j _ e)
  · rw [List.drop_zero, hsum]; exact hz
  · rw [List.drop_zero, hits] at ht
    have l0 : 0 < ads.length := by cases ads with | nil => exact absurd rfl hne | cons _ _ => simp
    rcases ht with ⟨_, h0⟩ | ⟨ht, hm⟩
    · omega
    · exact h h' tk t' (fun c o e => hk c o (fun hm => nlt (Heap.lt_size e) (List.mem_singleton.mp hm)) (fun q => nlt1 (Heap.lt_size e) hS0 q) (Heap.get?_push_of_some _ (Heap.get?_push_of_some _ e))) hm (nle hS0 ht)
end
end SL
namespace L3
open PySem PySem.Spec PyProof.Rows L2
def rSumL (K : PySem.W.Frag) : List V → Hp → VK → Prop := fun vs H Q => ∃ (a b : Addr) (ads : List Addr) (xss : List (List V)) (ys : List V), vs = [.ref a, .ref b] ∧ SqL K H a (ads.map V.ref) ∧ xss.length = ads.length ∧ (∀ j c, ads[j]? = some c → SqL K H c (xss.getD j [])) ∧ SqL K H b ys ∧ ads ≠ [] ∧
  ys.length + (xss.map (·.length)).sum ≤ sizeLine ∧ ∀ p, H p = none → Q (.ref p) (upd H p (.lst (ys ++ xss.flatten)))
theorem vals_refs : ∀ {ads : List Addr} {us : List Value}, Vals (ads.map V.ref) us → us = ads.map Value.ref
  | [], us, h => by cases h; rfl
  | a :: ads, us, h => by
    cases h with
    | cons h1 h2 =>
      cases (show _ = Value.ref a from h1)
      rw [vals_refs h2]; rfl
theorem its_of {X : Cx} {pins : List (Addr × Obj)} {σ : L2.St} {H : Hp} {s : Shared} (I : Inv X pins σ H s) : ∀ {ads : List Addr} {xss : List (List V)}, xss.length = ads.length → (∀ j c, ads[j]? = some c → SqL X.K H c (xss.getD j [])) →
    ∃ itss : List (List Value), itss.length = ads.length ∧ (∀ j c, ads[j]? = some c → PlainL s.heap c (itss.getD j []).toArray) ∧ Vals xss.flatten itss.flatten ∧ (itss.map (·.length)).sum = (xss.map (·.length)).sum
  | [], xss, hl, h => by
    cases xss with
    | nil => exact ⟨[], rfl, fun j c e => by simp at e, .nil, rfl⟩
    | cons _ _ => simp at hl
  | a :: ads, xss, hl, h => by
    cases xss with
    | nil => simp at hl
    | cons xs xss =>
      obtain ⟨its, r, p, z⟩ := I.list (h 0 a rfl)
      obtain ⟨itss, l2, p2, r2, z2⟩ := its_of I (ads := ads) (xss := xss) (by simpa using hl) fun j c e => h (j + 1) c e
      have r0 : Vals xs its := r
      refine ⟨its :: itss, by simp [l2], fun j c e => ?_, ?_, ?_⟩
      · cases j with
        | zero =>
          have : a = c := by simpa using e
          subst this
          exact p
        | succ j => exact p2 j c (by simpa using e)
      · rw [List.flatten_cons, List.flatten_cons]
        exact r0.append r2
      · simp only [List.map_cons, List.sum_cons]
        rw [z2, r0.length]
theorem cr_sumL {X : Cx} (hc : X.calm = true) : CallR X (.builtin "sum") (rSumL X.K) := by
  intro pins s σ H vs us Q I r h
  obtain ⟨a, b, ads, xss, ys, rfl, ha, hl, hx, hb, hne, hz, q⟩ := h
  obtain ⟨its, ra, pa, _⟩ := I.list ha
  obtain rfl := vals_refs ra
  obtain ⟨itb, rb, pb, _⟩ := I.list hb
  obtain ⟨itss, l2, p2, r2, z2⟩ := its_of I hl hx
  obtain ⟨u1, u2, rfl, e1, e2⟩ := r.two
  obtain rfl : u1 = Value.ref a := e1
  obtain rfl : u2 = Value.ref b := e2
  refine SL.sum_lists (I.ok.hd hc) pa pb l2 p2 hne (by rw [z2, ← rb.length]; exact hz) fun h' tk t' hk hm ht => ?_
  obtain ⟨m, hm⟩ := hm
  refine ⟨.ref t', _, I.laid (o := .lst (ys ++ xss.flatten)) hk ht ⟨?_, _, m, rb.append r2, hm⟩, rfl, q t' (I.hok.fresh ht)⟩
  rw [List.length_append, List.length_flatten]
  exact hz
theorem erase_map {α β : Type} (f : α → β) : ∀ (l : List α) (i : Nat), (l.map f).eraseIdx i = (l.eraseIdx i).map f
  | [], _ => rfl
  | _ :: _, 0 => rfl
  | x :: l, i + 1 => by
    show f x :: (l.map f).eraseIdx i = f x :: (l.eraseIdx i).map f
    rw [erase_map f l i]
theorem dqa_app {K : PySem.W.Frag} {Z : Hp} : ∀ {vs ws : List V} {ds es : List PyData}, DqAll K Z vs ds → DqAll K Z ws es → DqAll K Z (vs ++ ws) (ds ++ es)
  | [], _, _, _, h, k => by cases h; exact k
  | _ :: vs, _, _, _, h, k => by cases h with | cons h1 h2 => exact .cons h1 (dqa_app h2 k)
theorem dqa_lists {K : PySem.W.Frag} {Z : Hp} : ∀ {xss : List (List PyData)} {vs : List V}, DqAll K Z vs (xss.map PyData.list) → ∃ (ads : List Addr) (vss : List (List V)), vs = ads.map V.ref ∧ vss.length = ads.length ∧ (∀ j c, ads[j]? = some c → Z c = some (.lst (vss.getD j []))) ∧ DqAll K Z vss.flatten xss.flatten ∧ ads.length = xss.length ∧ (vss.map (·.length)).sum = (xss.map (·.length)).sum
  | [], vs, h => by cases h; exact ⟨[], [], rfl, rfl, fun j c e => by simp at e, .nil, rfl, rfl⟩
  | xs :: xss, vs, h => by
    cases h with
    | cons h1 h2 =>
      cases h1 with
      | @lst a ws _ hz ha =>
        obtain ⟨ads, vss, rfl, l1, p1, d1, l2, z2⟩ := dqa_lists h2
        refine ⟨a :: ads, ws :: vss, rfl, by simp [l1], fun j c e => ?_, ?_, by simp [l2], ?_⟩
        · cases j with
          | zero =>
            have : a = c := by simpa using e
            subst this
            exact hz
          | succ j => exact p1 j c (by simpa using e)
        · rw [List.flatten_cons, List.flatten_cons]
          exact dqa_app ha d1
        · simp only [List.map_cons, List.sum_cons]
          rw [z2, dpa_len ha]
section
variable {X : Cx} {a b o e : Expr} {ta tb : TE3} {p pos apos : Pos}
/-- sum(lists, start) -/
def xSumL (ta tb : TE3) : TE3 := fun r Q => ta r fun x r1 => tb r1 fun y r2 => ∃ (xss : List (List PyData)) (ys : List PyData), x = .d (.list (xss.map PyData.list)) ∧ y = .d (.list ys) ∧ xss ≠ [] ∧ ys.length + (xss.map (·.length)).sum ≤ sizeLine ∧ ∀ q, Q (.own q ((ys ++ xss.flatten).map T.d)) r2
theorem p3_sumL (hc : X.calm = true) (hg : Gl X "sum") (hm : X.mg "sum" = none) (ha : R3 X a ta) (hb : R3 X b tb)
    (he : starEach [a, b] X.env = (false, eval a X.env) :: starEach [b] X.env := by rfl) (he2 : starEach [b] X.env = (false, eval b X.env) :: starEach [] X.env := by rfl) (hpl : (backTo pos (starEach [b] X.env)).any (·.1) = false := by rfl) : P3 X (.Call (.Name "sum" p) [a, b] [] pos) (xSumL ta tb) := by
  obtain ⟨tea, ea, sa⟩ := ha.ex
  obtain ⟨teb, eb, sb⟩ := hb.ex
  refine ⟨_, pe_callB (cr_sumL hc) hg hm boot_sum (pa_cons ea (pa_cons eb pa_nil he2) he) (by decide) (by decide) he hpl, fun G Z H ks vs r s Q Q3 st ht k => sa G Z H ks vs r s _ _ st ht fun Z1 H1 x v r1 g1 st1 pv q => sb G Z1 H1 ks vs r1 s _ _ st1 q fun Z2 H2 y u r2 g2 st2 pu q => ?_⟩
  obtain ⟨xss, ys, rfl, rfl, hne, hz, q⟩ := q
  have d1 : Dq X.K Z2 v (.list (xss.map PyData.list)) := dp_mono g2.sub _ _ pv
  cases d1 with
  | @lst a1 ws _ hz1 ha1 =>
    cases (show Dq X.K Z2 u (.list ys) from pu) with
    | @lst b1 us _ hz2 hb1 =>
      obtain ⟨ads, vss, rfl, l1, p1, d2, l2, z2⟩ := dqa_lists ha1
      refine ⟨a1, b1, ads, vss, us, rfl, SqL.of (st2.zh _ _ hz1), l1, fun j c e => SqL.of (st2.zh _ _ (p1 j c e)), SqL.of (st2.zh _ _ hz2), fun e => hne (by rw [e] at l2; cases xss with | nil => rfl | cons _ _ => simp at l2), by rw [z2, ← dpa_len hb1]; exact hz, fun q' hq => ?_⟩
      exact k Z2 _ _ _ r2 (g1.trans g2) (st2.newD (dqa_app hb1 d2) hq) (q q')
/-- text.count(part) -/
def xCountS (ta tb : TE3) : TE3 := fun r Q => ta r fun x r1 => asS x fun a => tb r1 fun y r2 => asS y fun b => Q (.d (.int (Txt.count a b))) r2
theorem r3_countS (ha : R3 X o ta) (hb : R3 X e tb) (hs : starEach [e] X.env = [(false, eval e X.env)] := by rfl) (hbase : attributeBase o "count" X.env (eval o X.env) = eval o X.env := by rfl) (hline : (apos.endLine == pos.line) = true := by rfl) :
    R3 X (.Call (.Attribute o "count" apos) [e] [] pos) (xCountS ta tb) := by
  obtain ⟨te, ee, se⟩ := ha.ex
  obtain ⟨tf, ef, sf⟩ := hb.ex
  refine ⟨_, pe_m1 PySem.F.slot_str_count PySem.F.type_str_count mt_count ee ef hs hbase hline, fun G Z H ks vs r s Q Q3 st ht k => se G Z H ks vs r s _ _ st ht fun Z1 H1 x v r1 g1 st1 pv q => ?_⟩
  obtain ⟨a, rfl, q⟩ := asS_of q
  refine ⟨⟨a, pv.str⟩, sf G Z1 H1 ks vs r1 s _ _ st1 q fun Z2 H2 y u r2 g2 st2 pv2 q => ?_⟩
  obtain ⟨b, rfl, q⟩ := asS_of q
  exact ⟨a, b, pv.str, by rw [pv2.str], k Z2 H2 (.d (.int _)) _ r2 (g1.trans g2) st2 (Dq.int _) q⟩
/-- x.insert(i, text), x a list of texts -/
def xInsS (i : Nat) (ta tb : TE3) : TE3 := fun r Q => (∃ a l, r[i]? = some (some (.own a l))) ∧ ta r fun x r1 => asI x fun j => tb r1 fun y r2 => asS y fun z => ∃ (a : Addr) (ys : List Str), r2[i]? = some (some (.own a (ys.map fun z => T.d (.str z)))) ∧ ys.length < sizeLine ∧ 0 ≤ j ∧ j < 2 ^ 63 ∧
  Q (.d .none) (r2.set i (some (.own a ((ys.take j.toNat ++ [z] ++ ys.drop j.toNat).map fun z => T.d (.str z)))))
theorem p3_insS (i : Nat) {x : Str} (ha : R3 X a ta) (hb : R3 X b tb) (hN : X.N[i]? = some x := by rfl) (hv : Vis X.env.scope x := by first | exact Or.inl rfl | exact Or.inr (Or.inl rfl) | exact Or.inr (Or.inr rfl)) (hd : (x == ("__debug__" : Str)) = false := by decide)
    (hcd : (x == ("__classdict__" : Str)) = false := by decide) (hbase : attributeBase (.Name x p) "insert" X.env (eval (.Name x p) X.env) = eval (.Name x p) X.env := by rfl) (hline : (apos.endLine == pos.line) = true := by rfl)
    (hfew : ((backTo pos (starEach [a, b] X.env)).all (fun x => !x.1) && (backToKw pos (keywordEach [] X.env)).all (fun x => x.1.isSome) && decide ([a, b].length + ([] : List Keyword).length + (if ([] : List Keyword).isEmpty then 0 else 1) < 30)) = true := by rfl)
    (hs : starEach [a, b] X.env = (false, eval a X.env) :: starEach [b] X.env := by rfl) (hs2 : starEach [b] X.env = (false, eval b X.env) :: starEach [] X.env := by rfl) (hpl : (backTo pos (starEach [b] X.env)).any (·.1) = false := by rfl) :
    P3 X (.Call (.Attribute (.Name x p) "insert" apos) [a, b] [] pos) (xInsS i ta tb) := by
  obtain ⟨tea, ea, sa⟩ := ha.ex
  obtain ⟨teb, eb, sb⟩ := hb.ex
  refine ⟨_, pe_bm PySem.F.plainAttrs_list PySem.F.slot_list_insert PySem.F.type_list_insert mt_insert (pe_var hN hv hd hcd) (pa_cons ea (pa_cons eb pa_nil hs2) hs) hbase hfew hline hs hpl, fun G Z H ks vs r s Q Q3 st ht k => ?_⟩
  obtain ⟨⟨a0, l0, hr0⟩, ht⟩ := ht
  obtain ⟨w, ew, rt0⟩ := st.slot i _ hr0
  cases rt0 with
  | own e1 e2 =>
    refine ⟨_, ew, .inl ⟨rfl, _, SqL.of e1⟩, sa G Z H ks vs r s _ _ st ht fun Z1 H1 x v r1 g1 st1 pv q => ?_⟩
    obtain ⟨j, rfl, q⟩ := asI_of q
    refine sb G Z1 H1 ks vs r1 s _ _ st1 q fun Z2 H2 y u r2 g2 st2 pu q => ?_
    obtain ⟨z, rfl, q⟩ := asS_of q
    obtain ⟨a1, ys, hr, hz, j0, j1, q⟩ := q
    obtain ⟨w2, ew2, st3⟩ := st2.take hr
    rw [ew] at ew2
    cases ew2
    have rt := st3.top
    cases rt with
    | @own _ _ xs k1 k2 =>
      obtain rfl := strs_rts k2
      have h0 := S3.write (t := .d .none) (v := .non) st3.pushN (l' := (ys.take j.toNat ++ [z] ++ ys.drop j.toNat).map fun z => T.d (.str z)) (xs' := (ys.take j.toNat ++ [z] ++ ys.drop j.toNat).map V.str) (rts_strs _) (fun b => by rw [cts_strs, cts_strs]; omega)
      have h1 := h0.back (i := i) (by rw [List.length_set]; exact (List.getElem?_eq_some_iff.mp hr).1) ew
      rw [List.set_set] at h1
      refine ⟨_, ys.map V.str, j, u, rfl, by rw [pv.int], k1, by rw [List.length_map]; exact hz, j0, j1, ?_⟩
      have e : (ys.map V.str).take j.toNat ++ [u] ++ (ys.map V.str).drop j.toNat = (ys.take j.toNat ++ [z] ++ ys.drop j.toNat).map V.str := by
        rw [pu.str, List.map_append, List.map_append, List.map_take, List.map_drop]; rfl
      rw [e]
      exact k Z2 _ _ _ _ (g1.trans g2) (h1.pushD .non) q
/-- x.pop(i), x a list of texts -/
def xPopS (i : Nat) (ta : TE3) : TE3 := fun r Q => (∃ a l, r[i]? = some (some (.own a l))) ∧ ta r fun x r1 => asI x fun j => ∃ (a : Addr) (ys : List Str) (z : Str), r1[i]? = some (some (.own a (ys.map fun z => T.d (.str z)))) ∧ ys.length < 2 ^ 62 ∧ 0 ≤ j ∧ ys[j.toNat]? = some z ∧
  Q (.d (.str z)) (r1.set i (some (.own a ((ys.eraseIdx j.toNat).map fun z => T.d (.str z)))))
theorem p3_popS (i : Nat) {x : Str} (ha : R3 X a ta) (hN : X.N[i]? = some x := by rfl) (hv : Vis X.env.scope x := by first | exact Or.inl rfl | exact Or.inr (Or.inl rfl) | exact Or.inr (Or.inr rfl)) (hd : (x == ("__debug__" : Str)) = false := by decide)
    (hcd : (x == ("__classdict__" : Str)) = false := by decide) (hbase : attributeBase (.Name x p) "pop" X.env (eval (.Name x p) X.env) = eval (.Name x p) X.env := by rfl) (hline : (apos.endLine == pos.line) = true := by rfl)
    (hfew : ((backTo pos (starEach [a] X.env)).all (fun x => !x.1) && (backToKw pos (keywordEach [] X.env)).all (fun x => x.1.isSome) && decide ([a].length + ([] : List Keyword).length + (if ([] : List Keyword).isEmpty then 0 else 1) < 30)) = true := by rfl)
    (hs : starEach [a] X.env = (false, eval a X.env) :: starEach [] X.env := by rfl) (hpl : (backTo pos (starEach [] X.env)).any (·.1) = false := by rfl) :
    P3 X (.Call (.Attribute (.Name x p) "pop" apos) [a] [] pos) (xPopS i ta) := by
  obtain ⟨tea, ea, sa⟩ := ha.ex
  refine ⟨_, pe_bm PySem.F.plainAttrs_list PySem.F.slot_list_pop PySem.F.type_list_pop mt_popAt (pe_var hN hv hd hcd) (pa_cons ea pa_nil hs) hbase hfew hline hs hpl, fun G Z H ks vs r s Q Q3 st ht k => ?_⟩
  obtain ⟨⟨a0, l0, hr0⟩, ht⟩ := ht
  obtain ⟨w, ew, rt0⟩ := st.slot i _ hr0
  cases rt0 with
  | own e1 e2 =>
    refine ⟨_, ew, .inl ⟨rfl, _, SqL.of e1⟩, sa G Z H ks vs r s _ _ st ht fun Z1 H1 x v r1 g1 st1 pv q => ?_⟩
    obtain ⟨j, rfl, q⟩ := asI_of q
    obtain ⟨a1, ys, z, hr, hz, j0, hy, q⟩ := q
    obtain ⟨w2, ew2, st3⟩ := st1.take hr
    rw [ew] at ew2
    cases ew2
    have hj := (List.getElem?_eq_some_iff.mp hy).1
    have rt := st3.top
    cases rt with
    | @own _ _ xs k1 k2 =>
      obtain rfl := strs_rts k2
      have h0 := S3.write (t := .d .none) (v := .non) st3.pushN (l' := (ys.eraseIdx j.toNat).map fun z => T.d (.str z)) (xs' := (ys.eraseIdx j.toNat).map V.str) (rts_strs _) (fun b => by rw [cts_strs, cts_strs]; omega)
      have h1 := h0.back (i := i) (by rw [List.length_set]; exact (List.getElem?_eq_some_iff.mp hr).1) ew
      rw [List.set_set] at h1
      refine ⟨_, ys.map V.str, j, j.toNat, .str z, rfl, by rw [pv.int], k1, by omega, by omega, ?_, by rw [List.getElem?_map, hy]; rfl, ?_⟩
      · unfold seqIndex?
        rw [List.length_map]
        simp only [if_neg (show ¬ j < 0 by omega)]
        rw [if_pos]
        rw [Bool.and_eq_true, decide_eq_true_iff, decide_eq_true_iff]
        omega
      · have e : (ys.map V.str).eraseIdx j.toNat = (ys.eraseIdx j.toNat).map V.str := erase_map _ _ _
        rw [e]
        exact k Z1 _ _ _ _ g1 (h1.pushD (.str z)) q
end
end L3
namespace L3
open PySem PySem.Spec PyProof.Rows L2
theorem shp_nilL : SeqAt.shaped (.list []) = true := rfl
theorem shp_nilT : SeqAt.shaped (.tuple []) = true := rfl
theorem eqv_nn : PyData.eqv (.list []) (.list []) = true := by decide
theorem pz {j : Int} (h : 0 < j := by decide) : 0 < j := h
theorem nd0 : ([] : List Nat).Nodup := List.nodup_nil
theorem nd1 {i : Nat} : [i].Nodup := by simp
theorem sz (n : Nat) (h : n ≤ 1000 := by decide) : n ≤ sizeLine := Nat.le_trans h (by decide)
theorem dT {p : Prop} [Decidable p] (h : decide p = true) : p := of_decide_eq_true h
theorem dF {p : Prop} [Decidable p] (h : decide p = false) : ¬ p := of_decide_eq_false h
local macro_rules | `(tactic| wtm_at "sh") => `(tactic| conv => whnf)
/-! ## sizes, data -/
theorem get_map {α : Type} {f : α → PyData} {l : List α} {i : Nat} {x : PyData} (h : (l.map f)[i]? = some x) : ∃ a, l[i]? = some a ∧ x = f a ∧ a ∈ l := by
  rw [List.getElem?_map] at h
  cases e : l[i]? with
  | none => rw [e] at h; cases h
  | some a => rw [e] at h; exact ⟨a, rfl, (Option.some.inj h).symm, List.mem_of_getElem? e⟩
/-- below 2 ^ n -/
def Sz (n : Nat) (i : Int) : Prop := i.natAbs < 2 ^ n
theorem Sz.log {n : Nat} {i : Int} (h : Sz n i) : i.natAbs.log2 ≤ n := by
  by_cases e : i.natAbs = 0
  · rw [e]; exact Nat.zero_le _
  · exact Nat.le_of_lt_succ (Nat.lt_succ_of_lt ((Nat.log2_lt e).mpr h))
theorem Sz.mono {n m : Nat} {i : Int} (h : Sz n i) (k : n ≤ m) : Sz m i := Nat.lt_of_lt_of_le h (Nat.pow_le_pow_right (by decide) k)
theorem Sz.sub {n : Nat} {i j : Int} (h : Sz n i) (k : Sz n j) : Sz (n + 1) (i - j) := by
  unfold Sz at *
  rw [Nat.pow_succ]
  omega
theorem Sz.le {n : Nat} {i j : Int} (h : Sz n j) (k : i.natAbs ≤ j.natAbs) : Sz n i := Nat.lt_of_le_of_lt k h
theorem mulOkL {i j : Int} (h : -(2 ^ 64) < i) (k : i < 2 ^ 64) : MulOk i j := .inl (.inl ⟨h, k⟩)
theorem mulOkR {i j : Int} (h : -(2 ^ 64) < j) (k : j < 2 ^ 64) : MulOk i j := .inl (.inr ⟨h, k⟩)
theorem divOk {n : Nat} {i j : Int} (h0 : 0 < j) (h : Sz n j) (hn : n < 9000) : CDivW i j := ⟨h0, Nat.lt_of_le_of_lt h.log hn⟩
theorem Sz.div {n : Nat} {i j : Int} (h : Sz n i) (h0 : 0 < j) : Sz n (i / j) := by
  refine h.le ?_
  have h1 : (i / j).natAbs ≤ i.natAbs := by
    rcases Int.lt_or_le i 0 with hi | hi
    · have a1 : i / j < 0 := Int.ediv_neg_of_neg_of_pos hi h0
      have a2 : i ≤ i / j := by
        have := Int.mul_ediv_add_emod i j
        have h3 := Int.emod_nonneg i (by omega : j ≠ 0)
        have h4 : j * (i / j) ≤ i / j := by
          have : (j - 1) * (i / j) ≤ 0 := Int.mul_nonpos_of_nonneg_of_nonpos (by omega) (by omega)
          rw [Int.sub_mul] at this
          omega
        have h5 := Int.emod_lt_of_pos i h0
        have h6 : j * (i / j) > i - j := by omega
        have h7 : j * (i / j) ≥ j * i := Int.mul_le_mul_of_nonneg_left (by
          have := Int.le_ediv_of_mul_le (a := i) (b := i) h0 (by
            have : i * j ≤ i * 1 := Int.mul_le_mul_of_nonpos_left (by omega) (by omega)
            omega)
          exact this) (by omega)
        exact Int.le_ediv_of_mul_le h0 (by
          have : i * j ≤ i * 1 := Int.mul_le_mul_of_nonpos_left (by omega) (by omega)
          omega)
      omega
    · have a1 : 0 ≤ i / j := Int.ediv_nonneg hi (by omega)
      have a2 : i / j ≤ i := Int.ediv_le_self j hi
      omega
  exact h1
/-- an asking -/
abbrev asD (l : List (Int × Int)) : PyData := .tuple (l.map prI)
/-- its numbers: below from 1 on, none too long -/
def OkA (l : List (Int × Int)) : Prop := ∀ p ∈ l, 0 < p.2 ∧ Sz 2000 p.1 ∧ Sz 2000 p.2
/-! ## near.py -/
theorem gcd_step (a b : Int) : Int.gcd b (a % b) = Int.gcd a b := by
  rw [Int.emod_def, Int.gcd_sub_mul_left_right, Int.gcd_comm]
/-- in least numbers -/
def inL (a b : Int) : Int × Int := (a / Int.gcd a b, b / Int.gcd a b)
def N_in_least : List Str := ["above", "below", "one", "other"]
def body_in_least : TS3 := (xSeq (xPar 2 3 (xCons (xD (x1 cAbs (xView 0))) (xCons (xMove 1) xNil)))
  (xSeq (xWhile (xTest (x2 kGt (xView 3) (xC (.int 0)))) (xPar 2 3 (xCons (xMove 3) (xCons (xD (x2 kMod (xView 2) (xView 3))) xNil))))
  (xRet (xTup (xCons (xD (x2 kDiv (xView 0) (xView 2))) (xCons (xD (x2 kDiv (xView 1) (xView 2))) xNil))))))
def sp_in_least : Sp3 := fun ts Q _ => ∃ a b, ts = [.d (.int a), .d (.int b)] ∧ 0 < b ∧ Sz 8000 b ∧ Q (.d (prI (inL a b))) ts
theorem v_in_least (ts Q E) (h : sp_in_least ts Q E) : body_in_least { nx := fun r => finOk ts r ∧ Q (.d .none) (finF ts r), rt := fun x r => finOk ts r ∧ Q x (finF ts r) } (start3 N_in_least ts) := by
  obtain ⟨a, b, rfl, hb, sb, q⟩ := h
  refine ⟨fun m r => ∃ x y : Int, r = [some (.d (.int a)), some (.d (.int b)), some (.d (.int x)), some (.d (.int y))] ∧ 0 ≤ x ∧ 0 ≤ y ∧ Int.gcd x y = Int.gcd a b ∧ m = y.toNat ∧ (x = 0 → 0 < y), ⟨_, _, _, rfl, by omega, by omega, by simp [Int.gcd], rfl, fun _ => hb⟩, fun m r hW => ?_⟩
  obtain ⟨x, y, rfl, hx, hy, hg, rfl, h0⟩ := hW
  refine ⟨fun hc => ?_, fun hc => ?_⟩
  · have hy0 : 0 < y := dT hc
    refine ⟨hy0, _, ?_, _, _, rfl, hy, Int.emod_nonneg _ (by omega), ?_, rfl, fun e => by omega⟩
    · have := Int.emod_lt_of_pos x hy0
      omega
    · rw [gcd_step, hg]
  · have hy0 : ¬ 0 < y := dF hc
    have e0 : y = 0 := by omega
    subst e0
    have hx1 : 0 < x := by
      rcases Int.lt_or_le 0 x with h | h
      · exact h
      · exact absurd (h0 (by omega)) (by omega)
    have hg2 : (Int.gcd a b : Int) = x := by
      rw [← hg, Int.gcd_zero_right]
      omega
    have hle : (Int.gcd a b : Int) ≤ b := by
      have := Int.gcd_dvd_right (a := a) (b := b)
      exact Int.le_of_dvd hb this
    have sx : CDivW a x := divOk hx1 (sb.le (by omega)) (by decide)
    have sx2 : CDivW b x := divOk hx1 (sb.le (by omega)) (by decide)
    unfold inL at q
    rw [hg2] at q
    exact ⟨sx, sx2, sz 2, ⟨⟩, q⟩
theorem eqv_nil {l : List PyData} (h : l ≠ []) : PyData.eqv (.tuple l) (.tuple []) = false := by
  cases l with
  | nil => exact absurd rfl h
  | cons x l => simp only [PyData.eqv, PyData.eqvAll]
theorem shp_pairs : ∀ l : List (Int × Int), PyData.canLayAll0 (l.map prI) = true ∧ PyData.depthAll (l.map prI) ≤ 1
  | [] => by simp [PyData.canLayAll0, PyData.depthAll]
  | x :: l => by
    obtain ⟨h1, h2⟩ := shp_pairs l
    refine ⟨by simp [PyData.canLayAll0, PyData.canLay0, h1], ?_⟩
    have e : PyData.depth (prI x) = 1 := by simp [PyData.depth, PyData.depthAll]
    rw [List.map_cons, PyData.depthAll, e]
    omega
theorem shp_asD (l : List (Int × Int)) : SeqAt.shaped (asD l) = true := by
  obtain ⟨h1, h2⟩ := shp_pairs l
  unfold SeqAt.shaped
  rw [Bool.and_eq_true]
  refine ⟨by simpa [PyData.canLay0] using h1, decide_eq_true ?_⟩
  rw [PyData.depth]
  omega
/-- the nearest whole number, the lesser one of two as near, and how far off -/
def near (a b : Int) : Int × Int := if 2 * (a - a / b * b) ≤ b then (a / b, a - a / b * b) else (a / b + 1, b - (a - a / b * b))
def isMore (x y : Int × Int) : Bool := decide (y.1 * x.2 < x.1 * y.2)
/-- the greatest of the distances, a fraction, not in least numbers -/
def missS (q : Int) (m : Int × Int) (p : Int × Int) : Int × Int := if isMore ((near (q * p.1) p.2).2, p.2) m then ((near (q * p.1) p.2).2, p.2) else m
def missF (l : List (Int × Int)) (q : Int) : Int × Int := l.foldl (missS q) (0, 1)
def missL (l : List (Int × Int)) (q : Int) : Int × Int := inL (missF l q).1 (missF l q).2
theorem near_off {a b : Int} (hb : 0 < b) : 0 ≤ (near a b).2 ∧ (near a b).2 ≤ b := by
  have h1 := Int.emod_nonneg a (by omega : b ≠ 0)
  have h2 := Int.emod_lt_of_pos a hb
  have h3 : a - a / b * b = a % b := by
    have := Int.mul_ediv_add_emod a b
    rw [Int.mul_comm b] at this
    omega
  unfold near
  rw [h3]
  split
  · exact ⟨h1, by show a % b ≤ b; omega⟩
  · constructor
    · show 0 ≤ b - a % b; omega
    · show b - a % b ≤ b; omega
/-- a miss on the way: its number below is 1 or one of the asking's -/
theorem missF_ok {l : List (Int × Int)} {q : Int} : ∀ {m : Int × Int}, (∀ p ∈ l, 0 < p.2) → 0 ≤ m.1 → m.1 ≤ m.2 → 0 < m.2 → (m.2 = 1 ∨ ∃ p, p ∈ l ∧ m.2 = p.2) → ∀ l', l' ⊆ l → 0 ≤ (l'.foldl (missS q) m).1 ∧ (l'.foldl (missS q) m).1 ≤ (l'.foldl (missS q) m).2 ∧ 0 < (l'.foldl (missS q) m).2 ∧ ((l'.foldl (missS q) m).2 = 1 ∨ ∃ p, p ∈ l ∧ (l'.foldl (missS q) m).2 = p.2) := by
  intro m hp h0 h1 h2 h3 l'
  induction l' generalizing m with
  | nil => intro _; exact ⟨h0, h1, h2, h3⟩
  | cons p l' ih =>
    intro hs
    have hm : p ∈ l := hs (List.mem_cons_self ..)
    rw [List.foldl_cons]
    have hn := near_off (a := q * p.1) (hp p hm)
    unfold missS
    split
    · exact ih hn.1 hn.2 (hp p hm) (.inr ⟨p, hm, rfl⟩) fun x hx => hs (List.mem_cons_of_mem _ hx)
    · exact ih h0 h1 h2 h3 fun x hx => hs (List.mem_cons_of_mem _ hx)
theorem missF_take {l : List (Int × Int)} {q : Int} (hp : ∀ p ∈ l, 0 < p.2) (i : Nat) : 0 ≤ (missF (l.take i) q).1 ∧ (missF (l.take i) q).1 ≤ (missF (l.take i) q).2 ∧ 0 < (missF (l.take i) q).2 ∧ ((missF (l.take i) q).2 = 1 ∨ ∃ p, p ∈ l ∧ (missF (l.take i) q).2 = p.2) :=
  missF_ok (l := l) (m := (0, 1)) hp (by decide) (by decide) (by decide) (.inl rfl) _ (fun x hx => List.mem_of_mem_take hx)
theorem take_succ {α : Type} {l : List α} {i : Nat} {x : α} (h : l[i]? = some x) : l.take (i + 1) = l.take i ++ [x] := by
  rw [List.take_add_one, h]; rfl
end L3
namespace L3
open PySem PySem.Spec PyProof.Rows L2
local macro_rules | `(tactic| wtm_at "sh") => `(tactic| conv => whnf)
/-! ## the deck -/
theorem getI_of {α : Type} {l : List α} {i : Int} (h0 : 0 ≤ i) (h1 : i < l.length) : ∃ x, getI l i = some x ∧ l[i.toNat]? = some x ∧ x ∈ l := by
  unfold getI
  rw [if_pos h0]
  have : i.toNat < l.length := by omega
  exact ⟨l[i.toNat], List.getElem?_eq_getElem this, List.getElem?_eq_getElem this, List.getElem_mem this⟩
theorem setI_in {α : Type} {l : List α} {i : Int} (x : α) (h0 : 0 ≤ i) (h1 : i < l.length) : setI l i x = some (l.set i.toNat x) := by
  unfold setI
  rw [if_pos h0, if_pos h1]
def DeckOk (n : Nat) (l : List T) : Prop := ∃ (c : Addr) (cells : List Int) (i s : Int), l = [.own c (cells.map fun x => .d (.int x)), .d (.int i), .d (.int s)] ∧ 0 < cells.length ∧ cells.length ≤ 64 ∧ 0 ≤ i ∧ i + n ≤ 1000000000 ∧ 0 ≤ s ∧ s < 2147483648
theorem DeckOk.mono {n m : Nat} {l : List T} (h : DeckOk n l) (k : m ≤ n) : DeckOk m l := by
  obtain ⟨c, cells, i, s, e, h1, h2, h3, h4, h5⟩ := h
  exact ⟨c, cells, i, s, e, h1, h2, h3, by omega, h5⟩
def N_law_take : List Str := ["_law_deck_here", "_law_many", "_law_at", "_law_cell", "_law_one"]
def body_law_take : TS3 := (xSeq (xAsg (xD (x2 kMod (x2 cIx (xView 0) (xC (.int 1))) (x1 cLen (x2 cIx (xView 0) (xC (.int 0)))))) (xGName 2))
  (xSeq (xAsg (xD (x2 kAdd (x2 cIx (xView 0) (xC (.int 1))) (xC (.int 1)))) (xGSub 0 (xC (.int 1))))
  (xSeq (xAsg (xD (x2 cIx (x2 cIx (xView 0) (xC (.int 0))) (xView 2))) (xGName 3))
  (xSeq (xIfS (xOr (xTest (x2 kEqI (xView 3) (xC (.int 0)))) (xTest (x2 kEqI (xView 3) (xNeg (xC (.int 1)))))) (xSeq (xAsg (xD (x2 kMod (x2 kMul (x2 kMod (x2 kAdd (x2 cIx (xView 0) (xC (.int 2))) (x2 kMul (xC (.int 7919)) (x2 cIx (xView 0) (xC (.int 1))))) (xC (.int 2147483587))) (xC (.int 69621))) (xC (.int 2147483629)))) (xGName 4))
  (xSeq (xAsg (xD (x2 kMod (x2 kMul (x2 kMod (x2 kAdd (x2 kMul (xView 4) (xView 4)) (x2 kMul (xC (.int 31)) (x2 cIx (xView 0) (xC (.int 1))))) (xC (.int 2147483563))) (xC (.int 16807))) (xC (.int 2147483549)))) (xGName 4))
  (xRet (xD (x2 kMod (x2 kDiv (xView 4) (xC (.int 8))) (xView 1)))))) xNext)
  (xSeq (xAsg (xD (x2 kDiv (xView 3) (xView 1))) (xGSub2 0 (xC (.int 0)) (xView 2)))
  (xRet (xD (x2 kMod (xView 3) (xView 1)))))))))
/-- a digit: any number below many -/
def sp_law_take : Sp3 := fun ts Q _ => ∃ n a l m, ts = [.own a l, .d (.int m)] ∧ DeckOk (n + 1) l ∧ 0 < m ∧ m < 2 ^ 62 ∧ ∀ x l', 0 ≤ x → x < m → DeckOk n l' → Q (.d (.int x)) [.own a l', .d (.int m)]
theorem v_law_take (ts Q E) (h : sp_law_take ts Q E) : body_law_take { nx := fun r => finOk ts r ∧ Q (.d .none) (finF ts r), rt := fun x r => finOk ts r ∧ Q x (finF ts r) } (start3 N_law_take ts) := by
  obtain ⟨n, a, l, m, rfl, ⟨c, cells, i, s, rfl, h1, h2, h3, h4, h5, h6⟩, hm, hm2, q⟩ := h
  have hlen : ((cells.map fun x => T.d (.int x)).length : Int) = cells.length := by rw [List.length_map]
  have e0 : (0 : Int) < (cells.map fun x => T.d (.int x)).length := by rw [hlen]; omega
  have e1 := Int.emod_nonneg i (show ((cells.map fun x => T.d (.int x)).length : Int) ≠ 0 by omega)
  have e2 := Int.emod_lt_of_pos i e0
  obtain ⟨t, ht, ht2, htm⟩ := getI_of e1 e2
  obtain ⟨cell, _, rfl⟩ := List.mem_map.mp htm
  refine ⟨rfl, _, rfl, rfl, _, rfl, e0, rfl, _, rfl, _, rfl, rfl, _, rfl, rfl, _, ht, ?_⟩
  have b1 : ∀ x : Int, -(2 ^ 64) < x % 2147483629 ∧ x % 2147483629 < 2 ^ 64 := fun x => by
    have := Int.emod_nonneg x (show (2147483629 : Int) ≠ 0 by decide)
    have := Int.emod_lt_of_pos x (show (0 : Int) < 2147483629 by decide)
    omega
  have sm : Sz 62 m := by unfold Sz; omega
  have fin : ∀ (x : Int), 0 ≤ x % m ∧ x % m < m := fun x => ⟨Int.emod_nonneg _ (by omega), Int.emod_lt_of_pos _ hm⟩
  have dk : DeckOk n [.own c (cells.map fun x => .d (.int x)), .d (.int (i + 1)), .d (.int s)] := ⟨c, cells, i + 1, s, rfl, h1, h2, by omega, by omega, h5, h6⟩
  refine ⟨fun _ => ⟨fun _ => ?_, nofun⟩, fun _ => ⟨fun _ => ?_, fun _ => ?_⟩⟩
  · exact ⟨rfl, _, rfl, rfl, _, rfl, mulOkL (by decide) (by decide), pz, mulOkR (by decide) (by decide), pz, mulOkL (b1 _).1 (b1 _).2, rfl, _, rfl, mulOkL (by decide) (by decide), pz, mulOkR (by decide) (by decide), pz,
      divOk (by decide) (show Sz 4 8 from by unfold Sz; decide) (by decide), hm, ⟨rfl, ⟨⟩⟩, q _ _ (fin _).1 (fin _).2 dk⟩
  · exact ⟨rfl, _, rfl, rfl, _, rfl, mulOkL (by decide) (by decide), pz, mulOkR (by decide) (by decide), pz, mulOkL (b1 _).1 (b1 _).2, rfl, _, rfl, mulOkL (by decide) (by decide), pz, mulOkR (by decide) (by decide), pz,
      divOk (by decide) (show Sz 4 8 from by unfold Sz; decide) (by decide), hm, ⟨rfl, ⟨⟩⟩, q _ _ (fin _).1 (fin _).2 dk⟩
  · refine ⟨divOk hm sm (by decide), _, _, rfl, rfl, rfl, _, setI_in _ e1 e2, _, rfl, hm, ⟨rfl, ⟨⟩⟩, q _ _ (fin _).1 (fin _).2 ⟨c, cells.set (i % ((cells.map fun x => T.d (.int x)).length : Int)).toNat (cell / m), i + 1, s, ?_, by rw [List.length_set]; exact h1, by rw [List.length_set]; exact h2, by omega, by omega, h5, h6⟩⟩
    rw [List.map_set]
    rfl
def N_law_far : List Str := ["_law_deck_here", "_law_found", "_law_k"]
def body_law_far : TS3 := (xSeq (xAsg (xD (xC (.int 0))) (xGName 1))
  (xSeq (xFor (xR1 (xC (.int 3))) (xGName 2) (xAsg (xD (x2 kAdd (x2 kMul (xView 1) (x2 kPow (xC (.int 10)) (xC (.int 6)))) (xFz (xCall sp_law_take xNoE (xIo 0 (xArg (x2 kPow (xC (.int 10)) (xC (.int 6))) xANil)))))) (xGName 1)))
  (xRet (xD (x2 kAdd (x2 kMul (xView 1) (xC (.int 10))) (xFz (xCall sp_law_take xNoE (xIo 0 (xArg (xC (.int 10)) xANil)))))))))
/-- a number below 10 ^ 19 -/
def sp_law_far : Sp3 := fun ts Q _ => ∃ n a l, ts = [.own a l] ∧ DeckOk (n + 4) l ∧ ∀ x l', 0 ≤ x → x < 10000000000000000000 → DeckOk n l' → Q (.d (.int x)) [.own a l']
theorem v_law_far (ts Q E) (h : sp_law_far ts Q E) : body_law_far { nx := fun r => finOk ts r ∧ Q (.d .none) (finF ts r), rt := fun x r => finOk ts r ∧ Q x (finF ts r) } (start3 N_law_far ts) := by
  obtain ⟨n, a, l, rfl, hd, q⟩ := h
  have p6 : CPow 10 6 := ⟨by decide, by decide, by decide⟩
  refine ⟨by decide, by decide, fun i r => i ≤ 3 ∧ ∃ l' x k, r = [some (.own a l'), some (.d (.int x)), k] ∧ DeckOk (n + 1 + (3 - i)) l' ∧ 0 ≤ x ∧ x < 10 ^ (6 * i), ⟨by decide, l, 0, none, rfl, hd, by decide, by decide⟩, fun i x r hx hW => ?_, fun r hW => ?_⟩
  · obtain ⟨hi, l', x, k, rfl, hd', h0, h1⟩ := hW
    obtain ⟨hi3, rfl⟩ := rangeI_get hx
    have hi3' : i < 3 := hi3
    have e9 : n + 1 + (3 - i) = (n + 1 + (3 - (i + 1))) + 1 := by omega
    rw [e9] at hd'
    refine ⟨p6, mulOkR (by decide) (by decide), p6, nd1, n + 1 + (3 - (i + 1)), a, l', _, rfl, hd', by decide, by decide, fun y l2 hy0 hy1 hd2 => ?_⟩
    refine ⟨by omega, l2, x * 10 ^ 6 + y, _, rfl, hd2, ?_, ?_⟩
    · have : (0 : Int) ≤ x * 10 ^ 6 := Int.mul_nonneg h0 (by decide)
      omega
    · have hy2 : y < 1000000 := hy1
      have e3 : (10 : Int) ^ (6 * (i + 1)) = 10 ^ (6 * i) * 1000000 := by
        rw [Nat.mul_add, Int.pow_add]; rfl
      rw [e3]
      have : x * 1000000 ≤ (10 ^ (6 * i) - 1) * 1000000 := Int.mul_le_mul_of_nonneg_right (by omega) (by decide)
      have e4 : (10 : Int) ^ 6 = 1000000 := by decide
      rw [e4]
      omega
  · obtain ⟨hi, l', x, k, rfl, hd', h0, h1⟩ := hW
    have h2 : x < 1000000000000000000 := h1
    refine ⟨mulOkR (by decide) (by decide), nd1, n, a, l', _, rfl, hd', by decide, by decide, fun y l2 hy0 hy1 hd2 => ?_⟩
    have hy2 : y < 10 := hy1
    exact ⟨⟨rfl, ⟨⟩⟩, q _ l2 (by omega) (by omega) hd2⟩
def N_law_below_1 : List Str := ["_law_deck_here", "_law_way"]
def body_law_below_1 : TS3 := (xSeq (xAsg (xCall sp_law_take xNoE (xIo 0 (xArg (xC (.int 5)) xANil))) (xGName 1))
  (xSeq (xIfS (xTest (x2 kLt (xView 1) (xC (.int 4)))) (xRet (xD (x2 kAdd (xC (.int 1)) (xFz (xCall sp_law_take xNoE (xIo 0 (xArg (x2 cIx (xFz (xLst (xCons (xD (xC (.int 12))) (xCons (xD (xC (.int 200))) (xCons (xD (xC (.int 3000))) (xCons (xD (x2 kPow (xC (.int 10)) (xC (.int 6)))) xNil)))))) (xView 1)) xANil))))))) xNext)
  (xRet (xD (x2 kAdd (xC (.int 1)) (xFz (xCall sp_law_far xNoE (xIo 0 xANil))))))))
/-- a number below, from 1 on -/
def sp_law_below_1 : Sp3 := fun ts Q _ => ∃ n a l, ts = [.own a l] ∧ DeckOk (n + 5) l ∧ ∀ x l', 1 ≤ x → x ≤ 10000000000000000000 → DeckOk n l' → Q (.d (.int x)) [.own a l']
theorem v_law_below_1 (ts Q E) (h : sp_law_below_1 ts Q E) : body_law_below_1 { nx := fun r => finOk ts r ∧ Q (.d .none) (finF ts r), rt := fun x r => finOk ts r ∧ Q x (finF ts r) } (start3 N_law_below_1 ts) := by
  obtain ⟨n, a, l, rfl, hd, q⟩ := h
  have p6 : CPow 10 6 := ⟨by decide, by decide, by decide⟩
  refine ⟨nd1, n + 4, a, l, 5, rfl, hd, by decide, by decide, fun w l1 hw0 hw1 hd1 => ⟨fun hc => ?_, fun hc => ?_⟩⟩
  · have hw : w < 4 := dT hc
    obtain ⟨t, ht, htm⟩ : ∃ t : Int, getI [PyData.int 12, .int 200, .int 3000, .int (10 ^ (6 : Int).toNat)] w = some (.int t) ∧ 0 < t ∧ t ≤ 1000000 := by
      have : w = 0 ∨ w = 1 ∨ w = 2 ∨ w = 3 := by omega
      rcases this with rfl | rfl | rfl | rfl
      · exact ⟨12, rfl, by decide⟩
      · exact ⟨200, rfl, by decide⟩
      · exact ⟨3000, rfl, by decide⟩
      · exact ⟨1000000, rfl, by decide⟩
    refine ⟨p6, sz 4, fun p => ⟨rfl, _, ht, nd1, n + 3, a, l1, t, rfl, hd1, htm.1, by omega, fun y l2 hy0 hy1 hd2 => ⟨⟨rfl, ⟨⟩⟩, q _ l2 (by omega) (by omega) (hd2.mono (by omega))⟩⟩⟩
  · refine ⟨nd1, n, a, l1, rfl, hd1, fun y l2 hy0 hy1 hd2 => ⟨⟨rfl, ⟨⟩⟩, q _ l2 (by omega) (by omega) hd2⟩⟩
def N_law_fraction_1 : List Str := ["_law_deck_here", "_law_below_here", "_law_way", "_law_above", "_law_size", "_law_times"]
def body_law_fraction_1 : TS3 := (xSeq (xAsg (xCall sp_law_below_1 xNoE (xIo 0 xANil)) (xGName 1))
  (xSeq (xAsg (xCall sp_law_take xNoE (xIo 0 (xArg (xC (.int 4)) xANil))) (xGName 2))
  (xSeq (xIfS (xTest (x2 kEqI (xView 2) (xC (.int 0)))) (xAsg (xCall sp_law_far xNoE (xIo 0 xANil)) (xGName 3)) (xIfS (xTest (x2 kEqI (xView 2) (xC (.int 1)))) (xAsg (xD (x2 kMod (xFz (xCall sp_law_far xNoE (xIo 0 xANil))) (xView 1))) (xGName 3)) (xIfS (xTest (x2 kEqI (xView 2) (xC (.int 2)))) (xSeq (xAsg (xD (x2 kAdd (xC (.int 1)) (xFz (xCall sp_law_take xNoE (xIo 0 (xArg (xC (.int 9)) xANil)))))) (xGName 4))
  (xAsg (xD (x2 kSub (x2 kAdd (x2 kDiv (x2 kMul (xView 1) (xFz (xCall sp_law_take xNoE (xIo 0 (xArg (x2 kAdd (xView 4) (xC (.int 1))) xANil))))) (xView 4)) (xFz (xCall sp_law_take xNoE (xIo 0 (xArg (xC (.int 3)) xANil))))) (xC (.int 1)))) (xGName 3))) (xAsg (xD (x2 kSub (x2 kAdd (x2 kDiv (xView 1) (xC (.int 2))) (xFz (xCall sp_law_take xNoE (xIo 0 (xArg (xC (.int 3)) xANil))))) (xC (.int 1)))) (xGName 3)))))
  (xSeq (xAsg (xD (x2 cIx (xFz (xLst (xCons (xD (xC (.int 1))) (xCons (xD (xC (.int 1))) (xCons (xD (x2 kAdd (xC (.int 2)) (xFz (xCall sp_law_take xNoE (xIo 0 (xArg (xC (.int 8)) xANil)))))) xNil))))) (xFz (xCall sp_law_take xNoE (xIo 0 (xArg (xC (.int 3)) xANil)))))) (xGName 5))
  (xRet (xTup (xCons (xD (x2 kMul (x2 kMul (xView 3) (xView 5)) (x2 cIx (xFz (xLst (xCons (xD (xC (.int 1))) (xCons (xD (xNeg (xC (.int 1)))) xNil)))) (xFz (xCall sp_law_take xNoE (xIo 0 (xArg (xC (.int 2)) xANil))))))) (xCons (xD (x2 kMul (xView 1) (xView 5))) xNil))))))))
def FrOk (p : Int × Int) : Prop := 0 < p.2 ∧ p.2 ≤ 100000000000000000000 ∧ -1000000000000000000000 ≤ p.1 ∧ p.1 ≤ 1000000000000000000000
def sp_law_fraction_1 : Sp3 := fun ts Q _ => ∃ n a l, ts = [.own a l] ∧ DeckOk (n + 20) l ∧ ∀ p l', FrOk p → DeckOk n l' → Q (.d (prI p)) [.own a l']
theorem three {l : List PyData} {a b c : PyData} {x : Int} (e : l = [a, b, c]) (h0 : 0 ≤ x) (h1 : x < 3) : ∃ z, getI l x = some z ∧ (z = a ∨ z = b ∨ z = c) := by
  subst e
  have : x = 0 ∨ x = 1 ∨ x = 2 := by omega
  rcases this with rfl | rfl | rfl
  · exact ⟨a, rfl, .inl rfl⟩
  · exact ⟨b, rfl, .inr (.inl rfl)⟩
  · exact ⟨c, rfl, .inr (.inr rfl)⟩
theorem two {l : List PyData} {a b : PyData} {x : Int} (e : l = [a, b]) (h0 : 0 ≤ x) (h1 : x < 2) : ∃ z, getI l x = some z ∧ (z = a ∨ z = b) := by
  subst e
  have : x = 0 ∨ x = 1 := by omega
  rcases this with rfl | rfl
  · exact ⟨a, rfl, .inl rfl⟩
  · exact ⟨b, rfl, .inr rfl⟩
theorem v_law_fraction_1 (ts Q E) (h : sp_law_fraction_1 ts Q E) : body_law_fraction_1 { nx := fun r => finOk ts r ∧ Q (.d .none) (finF ts r), rt := fun x r => finOk ts r ∧ Q x (finF ts r) } (start3 N_law_fraction_1 ts) := by
  obtain ⟨n, a, l, rfl, hd, q⟩ := h
  refine ⟨nd1, n + 15, a, l, rfl, hd, fun b l1 hb0 hb1 hd1 => ⟨nd1, n + 14, a, l1, 4, rfl, hd1, by decide, by decide, fun w l2 hw0 hw1 hd2 => ?_⟩⟩
  -- behind the choice of the number above
  have tail : ∀ (ab : Int) (l3 : List T) (u4 : Option T), -10000000000000000002 ≤ ab → ab ≤ 10000000000000000002 → DeckOk (n + 3) l3 →
      xSeq (xAsg (xD (x2 cIx (xFz (xLst (xCons (xD (xC (.int 1))) (xCons (xD (xC (.int 1))) (xCons (xD (x2 kAdd (xC (.int 2)) (xFz (xCall sp_law_take xNoE (xIo 0 (xArg (xC (.int 8)) xANil)))))) xNil))))) (xFz (xCall sp_law_take xNoE (xIo 0 (xArg (xC (.int 3)) xANil)))))) (xGName 5))
        (xRet (xTup (xCons (xD (x2 kMul (x2 kMul (xView 3) (xView 5)) (x2 cIx (xFz (xLst (xCons (xD (xC (.int 1))) (xCons (xD (xNeg (xC (.int 1)))) xNil)))) (xFz (xCall sp_law_take xNoE (xIo 0 (xArg (xC (.int 2)) xANil))))))) (xCons (xD (x2 kMul (xView 1) (xView 5))) xNil))))
        { nx := fun r => finOk [.own a l] r ∧ Q (.d .none) (finF [.own a l] r), rt := fun x r => finOk [.own a l] r ∧ Q x (finF [.own a l] r) } [some (.own a l3), some (.d (.int b)), some (.d (.int w)), some (.d (.int ab)), u4, none] := fun ab l3 u4 ha0 ha1 hd3 => by
    refine ⟨nd1, n + 2, a, l3, 8, rfl, hd3, by decide, by decide, fun x l4 hx0 hx1 hd4 => ⟨sz 3, fun p => ⟨rfl, nd1, n + 1, a, l4, 3, rfl, hd4, by decide, by decide, fun y l5 hy0 hy1 hd5 => ?_⟩⟩⟩
    obtain ⟨z, hz, hz2⟩ := three (l := [.int 1, .int 1, .int (2 + x)]) rfl hy0 hy1
    obtain ⟨t, rfl, ht0, ht1⟩ : ∃ t, z = .int t ∧ 1 ≤ t ∧ t ≤ 9 := by
      rcases hz2 with rfl | rfl | rfl
      · exact ⟨_, rfl, by decide, by decide⟩
      · exact ⟨_, rfl, by decide, by decide⟩
      · exact ⟨_, rfl, by omega, by omega⟩
    have mb : MulOk ab t := mulOkR (by omega) (by omega)
    refine ⟨_, hz, mb, sz 2, fun p => ⟨rfl, nd1, n, a, l5, 2, rfl, hd5, by decide, by decide, fun s l6 hs0 hs1 hd6 => ?_⟩⟩
    obtain ⟨z, hz, hz2⟩ := two (l := [.int 1, .int (-1)]) rfl hs0 hs1
    have bt : -90000000000000000018 ≤ ab * t ∧ ab * t ≤ 90000000000000000018 := by
      have h1 : ab * t ≤ 10000000000000000002 * t := Int.mul_le_mul_of_nonneg_right ha1 (by omega)
      have h2 : (-10000000000000000002) * t ≤ ab * t := Int.mul_le_mul_of_nonneg_right ha0 (by omega)
      omega
    have bb : 0 < b * t ∧ b * t ≤ 90000000000000000000 := by
      have h1 : b * t ≤ 10000000000000000000 * t := Int.mul_le_mul_of_nonneg_right hb1 (by omega)
      have h2 : 1 * t ≤ b * t := Int.mul_le_mul_of_nonneg_right hb0 (by omega)
      omega
    rcases hz2 with rfl | rfl
    · exact ⟨_, hz, mulOkR (by decide) (by decide), mulOkR (by omega) (by omega), sz 2, ⟨rfl, ⟨⟩⟩, q (ab * t * 1, b * t) l6 ⟨bb.1, by show b * t ≤ _; omega, by show _ ≤ ab * t * 1; omega, by show ab * t * 1 ≤ _; omega⟩ hd6⟩
    · exact ⟨_, hz, mulOkR (by decide) (by decide), mulOkR (by omega) (by omega), sz 2, ⟨rfl, ⟨⟩⟩, q (ab * t * -1, b * t) l6 ⟨bb.1, by show b * t ≤ _; omega, by show _ ≤ ab * t * -1; omega, by show ab * t * -1 ≤ _; omega⟩ hd6⟩
  have sb : Sz 80 b := by unfold Sz; omega
  refine ⟨fun _ => ?_, fun _ => ⟨fun _ => ?_, fun _ => ⟨fun _ => ?_, fun _ => ?_⟩⟩⟩
  · exact ⟨nd1, n + 10, a, l2, rfl, hd2, fun x l3 hx0 hx1 hd3 => tail x l3 none (by omega) (by omega) (hd3.mono (by omega))⟩
  · refine ⟨nd1, n + 10, a, l2, rfl, hd2, fun x l3 hx0 hx1 hd3 => ⟨by omega, tail (x % b) l3 none ?_ ?_ (hd3.mono (by omega))⟩⟩
    · have := Int.emod_nonneg x (show b ≠ 0 by omega); omega
    · have := Int.emod_lt_of_pos x (show 0 < b by omega); omega
  · refine ⟨nd1, n + 13, a, l2, 9, rfl, hd2, by decide, by decide, fun x l3 hx0 hx1 hd3 => ⟨nd1, n + 12, a, l3, 1 + x + 1, rfl, hd3, by omega, by omega, fun y l4 hy0 hy1 hd4 => ⟨mulOkR (by omega) (by omega), divOk (by omega) (show Sz 10 (1 + x) from by unfold Sz; omega) (by decide), nd1, n + 11, a, l4, 3, rfl, hd4, by decide, by decide, fun z l5 hz0 hz1 hd5 => tail (b * y / (1 + x) + z - 1) l5 _ ?_ ?_ (hd5.mono (by omega))⟩⟩⟩
    · have h1 : 0 ≤ b * y := Int.mul_nonneg (by omega) hy0
      have := Int.ediv_nonneg h1 (show 0 ≤ 1 + x by omega)
      omega
    · have h1 : b * y ≤ b * (1 + x) := Int.mul_le_mul_of_nonneg_left (by omega) (by omega)
      have h2 : b * y / (1 + x) ≤ b := Int.ediv_le_of_le_mul (by omega) h1
      omega
  · refine ⟨divOk (by decide) (show Sz 2 2 from by unfold Sz; decide) (by decide), nd1, n + 13, a, l2, 3, rfl, hd2, by decide, by decide, fun z l5 hz0 hz1 hd5 => tail (b / 2 + z - 1) l5 none (by omega) (by omega) (hd5.mono (by omega))⟩
end L3
namespace L3
open PySem PySem.Spec PyProof.Rows L2
local macro_rules | `(tactic| wtm_at "sh") => `(tactic| conv => whnf)
def N_law_asking_1 : List Str := ["_law_deck_here", "_law_found", "_law_k"]
def body_law_asking_1 : TS3 := (xSeq (xAsg (xLc (xR1 (x2 kAdd (xC (.int 1)) (xFz (xCall sp_law_take xNoE (xIo 0 (xArg (xC (.int 3)) xANil)))))) (xGName 2) xYes (xCall sp_law_fraction_1 xNoE (xIo 0 xANil)) [2]) (xGName 1))
  (xSeq (xIfS (xAnd (xTest (x2 kGt (x1 cLen (xView 1)) (xC (.int 1)))) (xTest (x2 kEqI (xFz (xCall sp_law_take xNoE (xIo 0 (xArg (xC (.int 3)) xANil)))) (xC (.int 0))))) (xAsg (xTup (xCons (xD (x2 kSub (xFz (xCall sp_law_take xNoE (xIo 0 (xArg (x2 kPow (xC (.int 10)) (xC (.int 6))) xANil)))) (xFz (xCall sp_law_take xNoE (xIo 0 (xArg (x2 kPow (xC (.int 10)) (xC (.int 6))) xANil)))))) (xCons (xD (x2 cIx (x2 cIx (xView 1) (xC (.int 0))) (xC (.int 1)))) xNil))) (xGSub 1 (xC (.int 1)))) xNext)
  (xRet (xD (x1 cTup (xView 1))))))
theorem FrOk.ok {l : List (Int × Int)} (h : ∀ p ∈ l, FrOk p) : OkA l := fun p hp => by
  obtain ⟨h1, h2, h3, h4⟩ := h p hp
  exact ⟨h1, by unfold Sz; exact Nat.lt_of_lt_of_le (show p.1.natAbs < 2 ^ 80 by omega) (Nat.pow_le_pow_right (by decide) (by decide)), by unfold Sz; exact Nat.lt_of_lt_of_le (show p.2.natAbs < 2 ^ 80 by omega) (Nat.pow_le_pow_right (by decide) (by decide))⟩
def AskOk (l : List (Int × Int)) : Prop := l ≠ [] ∧ l.length ≤ 3 ∧ ∀ p ∈ l, FrOk p
def sp_law_asking_1 : Sp3 := fun ts Q _ => ∃ n a l, ts = [.own a l] ∧ DeckOk (n + 80) l ∧ ∀ p l', AskOk p → DeckOk n l' → Q (.d (asD p)) [.own a l']
theorem v_law_asking_1 (ts Q E) (h : sp_law_asking_1 ts Q E) : body_law_asking_1 { nx := fun r => finOk ts r ∧ Q (.d .none) (finF ts r), rt := fun x r => finOk ts r ∧ Q x (finF ts r) } (start3 N_law_asking_1 ts) := by
  obtain ⟨n, a, l, rfl, hd, q⟩ := h
  have p6 : CPow 10 6 := ⟨by decide, by decide, by decide⟩
  refine ⟨nd1, n + 79, a, l, 3, rfl, hd, by decide, by decide, fun m l1 hm0 hm1 hd1 => ⟨by omega, by omega, fun p => ?_⟩⟩
  refine ⟨fun i acc r => i ≤ (1 + m).toNat ∧ ∃ l' ps, r = [some (.own a l'), none, none] ∧ acc = ps.map (fun z => T.d (prI z)) ∧ ps.length = i ∧ (∀ p ∈ ps, FrOk p) ∧ DeckOk (n + 10 + 20 * (3 - i)) l', ⟨by omega, l1, [], rfl, rfl, rfl, by simp, hd1.mono (by omega)⟩, fun i x acc r hx hW => ⟨fun _ => ?_, nofun⟩, fun acc r hW => ?_⟩
  · obtain ⟨hi, l', ps, rfl, rfl, hl, hp, hd'⟩ := hW
    obtain ⟨hi3, rfl⟩ := rangeI_get hx
    have e9 : n + 10 + 20 * (3 - i) = n + 10 + 20 * (3 - (i + 1)) + 20 := by omega
    rw [e9] at hd'
    refine ⟨nd1, _, a, l', rfl, hd', fun z l2 hz hd2 => ⟨Nat.lt_of_le_of_lt (by rw [List.length_map]; omega) (show 1000 < sizeLine by decide), by omega, l2, ps ++ [z], rfl, by rw [List.map_append]; rfl, by rw [List.length_append, hl]; rfl, fun y hy => ?_, hd2⟩⟩
    rcases List.mem_append.mp hy with hy | hy
    · exact hp y hy
    · rw [List.mem_singleton.mp hy]; exact hz
  · obtain ⟨hi, l', ps, rfl, rfl, hl, hp, hd'⟩ := hW
    rw [rangeI_len] at hl
    have hlen : ps.length ≤ 3 := by omega
    have hne : ps ≠ [] := fun e => by rw [e] at hl; simp at hl; omega
    have dn : DeckOk (n + 10) l' := hd'.mono (by omega)
    have fin : ∀ l3, DeckOk n l3 → alld (ps.map fun z => T.d (prI z)) = true ∧ finOk [.own a l] [some (.own a l3), some (.own p (ps.map fun z => T.d (prI z))), none] ∧ Q (.d (.tuple (fzs (ps.map fun z => T.d (prI z))))) [.own a l3] := fun l3 h3 => by
      rw [fzs_map]
      exact ⟨alld_map _ _, ⟨rfl, ⟨⟩⟩, q ps l3 ⟨hne, hlen, hp⟩ h3⟩
    refine ⟨fun hc => ⟨nd1, n + 9, a, l', 3, rfl, dn, by decide, by decide, fun x l2 hx0 hx1 hd2 => ⟨fun _ => ?_, fun _ => fin l2 (hd2.mono (by omega))⟩⟩, fun hc => ⟨nofun, fun _ => fin l' (dn.mono (by omega))⟩⟩
    have h2 : (1 : Int) < (ps.map fun z => T.d (prI z)).length := dT hc
    rw [List.length_map] at h2
    match ps, hp, h2, fin, hl, hlen, q with
    | z0 :: z1 :: rest, hp, h2, fin, hl, hlen, q =>
      refine ⟨p6, nd1, n + 8, a, l2, _, rfl, hd2, by decide, by decide, fun u l3 hu0 hu1 hd3 => ⟨p6, nd1, n + 7, a, l3, _, rfl, hd3, by decide, by decide, fun w l4 hw0 hw1 hd4 => ?_⟩⟩
      have hu1' : u < 1000000 := hu1
      have hw1' : w < 1000000 := hw1
      refine ⟨rfl, _, rfl, _, rfl, sz 2, _, setI_in _ (by decide) (by simp only [List.length_map, List.length_cons]; omega), ?_⟩
      have e1 : (List.map (fun z => T.d (prI z)) (z0 :: z1 :: rest)).set (1 : Int).toNat (mkTup [.d (.int (u - w)), .d (.int z0.2)]) = (z0 :: (u - w, z0.2) :: rest).map fun z => T.d (prI z) := rfl
      rw [e1]
      refine ⟨alld_map _ _, ⟨rfl, ⟨⟩⟩, ?_⟩
      have e2 := fzs_map prI (z0 :: (u - w, z0.2) :: rest)
      show Q (.d (.tuple (fzs ((z0 :: (u - w, z0.2) :: rest).map fun z => T.d (prI z))))) [.own a l4]
      rw [e2]
      refine q (z0 :: (u - w, z0.2) :: rest) l4 ⟨by simp, by simp at hlen ⊢; omega, fun y hy => ?_⟩ (hd4.mono (by omega))
      rcases List.mem_cons.mp hy with rfl | hy
      · exact hp _ (by simp)
      · rcases List.mem_cons.mp hy with rfl | hy
        · have := hp z0 (by simp)
          exact ⟨this.1, this.2.1, by show _ ≤ u - w; omega, by show u - w ≤ _; omega⟩
        · exact hp y (by simp [hy])
def N_law_reduced : List Str := ["_law_above", "_law_below_here", "_law_one", "_law_other"]
def body_law_reduced : TS3 := (xSeq (xPar 2 3 (xCons (xD (x1 cAbs (xView 0))) (xCons (xMove 1) xNil)))
  (xSeq (xWhile (xTest (x2 kGt (xView 3) (xC (.int 0)))) (xPar 2 3 (xCons (xMove 3) (xCons (xD (x2 kMod (xView 2) (xView 3))) xNil))))
  (xRet (xTup (xCons (xD (x2 kDiv (xView 0) (xView 2))) (xCons (xD (x2 kDiv (xView 1) (xView 2))) xNil))))))
def sp_law_reduced : Sp3 := sp_in_least
theorem v_law_reduced (ts Q E) (h : sp_law_reduced ts Q E) : body_law_reduced { nx := fun r => finOk ts r ∧ Q (.d .none) (finF ts r), rt := fun x r => finOk ts r ∧ Q x (finF ts r) } (start3 N_law_reduced ts) := v_in_least ts Q E h
end L3
namespace L3
open PySem PySem.Spec PyProof.Rows L2
local macro_rules | `(tactic| wtm_at "sh") => `(tactic| conv => whnf)
def N_law_same_1 : List Str := ["_law_found", "_law_due", "_law_one", "_law_other"]
def body_law_same_1 (sp_law_same_1 : Sp3) : TS3 := (xSeq (xIfS (xTest (x1 (cIsi2 "tuple" "list") (xView 1))) (xSeq (xIfS (xOr (xTest (x2 kNe (x1 (cIsi "tuple") (xView 0)) (x1 (cIsi "tuple") (xView 1)))) (xTest (x2 kNe (x1 (cIsi "list") (xView 0)) (x1 (cIsi "list") (xView 1))))) (xRet (xD (xC (.bool false)))) xNext)
  (xSeq (xIfS (xTest (x2 kNeI (x1 cLen (xView 0)) (x1 cLen (xView 1)))) (xRet (xD (xC (.bool false)))) xNext)
  (xRet (xD (x2 kEq (xFz (xLc (xZip (xView 0) (xView 1)) (xGTup 2 (xGCons (xGName 2) (xGCons (xGName 3) xGNil))) (xNot (xTest (xFz (xCall sp_law_same_1 xNoE (xArg (xView 2) (xArg (xView 3) xANil)))))) (xD (xC (.int 1))) [2, 3])) (xFz (xLst xNil))))))) xNext)
  (xSeq (xIfS (xOr (xTest (x2 kIsN (xView 1) (xC .none))) (xTest (x1 (cIsi "str") (xView 1)))) (xRet (xD (xAndV (x2 kEq (xView 0) (xView 1)) (x2 kEq (x1 (cIsi "str") (xView 0)) (x1 (cIsi "str") (xView 1)))))) xNext)
  (xRet (xD (xAndV (x1 (cIsi "int") (xView 0)) (xAndV (xNotV (x1 (cIsi "bool") (xView 0))) (x2 kEq (xView 0) (xView 1))))))))
/-- plain nested data of no more than n layers -/
def Nest : Nat → PyData → Prop
  | 0, _ => False
  | _ + 1, .none => True
  | _ + 1, .int _ => True
  | _ + 1, .str i => SeqAt.shaped (.str i) = true
  | n + 1, .tuple l => l.length < sizeLine ∧ ∀ x ∈ l, Nest n x
  | n + 1, .list l => l.length < sizeLine ∧ ∀ x ∈ l, Nest n x
  | _ + 1, _ => False
def sp_law_same_1 (n : Nat) : Sp3 := fun ts Q _ => ∃ x, ts = [.d x, .d x] ∧ Nest n x ∧ Q (.d (.bool true)) [.d x, .d x]
theorem v_law_same_1 (n) (ts Q E) (h : sp_law_same_1 (n + 1) ts Q E) : body_law_same_1 (sp_law_same_1 n) { nx := fun r => finOk ts r ∧ Q (.d .none) (finF ts r), rt := fun x r => finOk ts r ∧ Q x (finF ts r) } (start3 N_law_same_1 ts) := by
  obtain ⟨x, rfl, hn, q⟩ := h
  have loop : ∀ l : List PyData, (∀ x ∈ l, Nest n x) → ∀ i x, (zipD l l)[i]? = some x → ∃ y, x = PyData.tuple [y, y] ∧ Nest n y := fun l hl i x hx => by
    unfold zipD at hx
    rw [List.getElem?_zipWith] at hx
    cases e1 : l[i]? with
    | none => rw [e1] at hx; cases hx
    | some y => rw [e1] at hx; cases hx; exact ⟨y, rfl, hl y (List.mem_of_getElem? e1)⟩
  cases x with
  | tuple l =>
    have hn2 := hn.2
    have hlen := hn.1
    refine ⟨fun _ => ⟨rfl, rfl, nofun, fun _ => ⟨rfl, rfl, ⟨nofun, fun _ => ⟨fun hc => ?_, fun _ => ?_⟩⟩⟩⟩, nofun⟩
    · have h2 : decide ((l.length : Int) = l.length) = true := decide_eq_true rfl
      have h3 : (!decide ((l.length : Int) = l.length)) = true := hc
      rw [h2] at h3
      cases h3
    refine fun p => ⟨fun i acc r => acc = [] ∧ r.length = 4 ∧ r[0]? = some (some (.d (.tuple l))) ∧ r[1]? = some (some (.d (.tuple l))), ⟨rfl, rfl, rfl, rfl⟩, fun i x acc r hx hW => ?_, fun acc r hW => ?_⟩
    · obtain ⟨rfl, hr, h0, h1⟩ := hW
      obtain ⟨y, rfl, hy⟩ := loop l hn2 i _ hx
      match r, hr, h0, h1 with
      | [_, _, _, _], _, h0, h1 =>
        cases h0
        cases h1
        exact ⟨rfl, nd0, y, rfl, hy, nofun, fun _ => ⟨rfl, rfl, rfl, rfl⟩⟩
    · obtain ⟨rfl, hr, h0, h1⟩ := hW
      match r, hr, h0, h1 with
      | [_, _, _, _], _, h0, h1 =>
        cases h0
        cases h1
        exact ⟨rfl, sz 0, fun _ => ⟨rfl, rfl, rfl, ⟨⟨⟩, q⟩⟩⟩
  | list l =>
    have hn2 := hn.2
    have hlen := hn.1
    refine ⟨fun _ => ⟨rfl, rfl, nofun, fun _ => ⟨rfl, rfl, ⟨nofun, fun _ => ⟨fun hc => ?_, fun _ => ?_⟩⟩⟩⟩, nofun⟩
    · have h2 : decide ((l.length : Int) = l.length) = true := decide_eq_true rfl
      have h3 : (!decide ((l.length : Int) = l.length)) = true := hc
      rw [h2] at h3
      cases h3
    refine fun p => ⟨fun i acc r => acc = [] ∧ r.length = 4 ∧ r[0]? = some (some (.d (.list l))) ∧ r[1]? = some (some (.d (.list l))), ⟨rfl, rfl, rfl, rfl⟩, fun i x acc r hx hW => ?_, fun acc r hW => ?_⟩
    · obtain ⟨rfl, hr, h0, h1⟩ := hW
      obtain ⟨y, rfl, hy⟩ := loop l hn2 i _ hx
      match r, hr, h0, h1 with
      | [_, _, _, _], _, h0, h1 =>
        cases h0
        cases h1
        exact ⟨rfl, nd0, y, rfl, hy, nofun, fun _ => ⟨rfl, rfl, rfl, rfl⟩⟩
    · obtain ⟨rfl, hr, h0, h1⟩ := hW
      match r, hr, h0, h1 with
      | [_, _, _, _], _, h0, h1 =>
        cases h0
        cases h1
        exact ⟨rfl, sz 0, fun _ => ⟨rfl, rfl, rfl, ⟨⟨⟩, q⟩⟩⟩
  | int i => 
    refine ⟨nofun, fun _ => ⟨⟨⟩, nofun, fun _ => ⟨nofun, fun _ => ⟨fun _ => ⟨fun _ => ⟨rfl, rfl, ?_⟩, nofun⟩, nofun⟩⟩⟩⟩
    have e : PyData.eqv (.int i) (.int i) = true := by simp [PyData.eqv]
    show True ∧ Q (.d (.bool (PyData.eqv (.int i) (.int i)))) _
    rw [e]
    exact ⟨⟨⟩, q⟩
  | str i => 
    have e : PyData.eqv (.str i) (.str i) = true := by simp [PyData.eqv]
    refine ⟨nofun, fun _ => ⟨⟨⟩, nofun, fun _ => ⟨fun _ => ⟨hn, hn, ?_⟩, nofun⟩⟩⟩
    · show (PyData.eqv (.str i) (.str i) = true → _) ∧ (PyData.eqv (.str i) (.str i) = false → _)
      rw [e]
      refine ⟨fun _ => ⟨rfl, rfl, ⟨⟩, q⟩, nofun⟩
  | none => 
    exact ⟨nofun, fun _ => ⟨⟨⟩, fun _ => ⟨fun _ => ⟨rfl, rfl, fun _ => ⟨rfl, rfl, ⟨⟨⟩, q⟩⟩, nofun⟩, nofun⟩, nofun⟩⟩
  | _ => exact hn.elim
theorem fzo (p : Addr) (ns : List Int) : fz (T.own p (ns.map fun n => T.d (.int n))) = .list (ns.map PyData.int) := by
  show PyData.list (fzs (ns.map fun n => T.d (.int n))) = _
  rw [fzs_map]
theorem z0_law_same_1 {ts : List T} {Q : T → List T → Prop} {E : Addr → List T → Prop} (h : sp_law_same_1 0 ts Q E) : False := by
  obtain ⟨x, _, hn, _⟩ := h
  exact hn
def N_law_deck : List Str := ["_law_script", "_law_cells", "_law_seed", "_law_k", "_law_mixed"]
def body_law_deck : TS3 := (xSeq (xAsg (x2 cAdd (xFz (xSl (xView 0) xNo (xSome (xC (.int 63))))) (xFz (xLst (xCons (xD (x1 cLen (xView 0))) xNil)))) (xGName 1))
  (xSeq (xAsg (xD (x2 kMod (x2 kAdd (x2 kAdd (x2 kMul (x1 cSum (xFz (xSl (xView 0) xNo (xSome (xC (.int 63)))))) (xC (.int 48271))) (x2 kMul (xC (.int 7)) (x1 cLen (xView 0)))) (xC (.int 5))) (xC (.int 2147483647)))) (xGName 2))
  (xSeq (xIfS (xTest (x2 kEqI (x2 kMod (x1 cSum (xFz (xSl (xView 0) xNo (xSome (xC (.int 63)))))) (xC (.int 2))) (xC (.int 1)))) (xFor (xR1 (x1 cLen (xView 1))) (xGName 3) (xSeq (xAsg (xD (x2 kMod (x2 kMul (x2 kAdd (x2 kAdd (x2 kMod (x2 cIx (xView 1) (xView 3)) (xC (.int 2147483587))) (x2 kMul (xC (.int 853)) (xView 3))) (xC (.int 11))) (xC (.int 69621))) (xC (.int 2147483629)))) (xGName 4))
  (xSeq (xAsg (xD (x2 kMod (x2 kMul (x2 kMod (x2 kAdd (x2 kMul (xView 4) (xView 4)) (x2 kMul (xC (.int 31)) (xView 3))) (xC (.int 2147483563))) (xC (.int 16807))) (xC (.int 2147483549)))) (xGName 4))
  (xAsg (xD (x2 kAdd (x2 kMul (x2 kMul (xView 4) (xView 4)) (xC (.int 2147483543))) (x2 kMod (x2 kMul (xView 4) (xC (.int 48271))) (xC (.int 2147483579))))) (xGSub 1 (xView 3)))))) xNext)
  (xRet (xLst (xCons (xMove 1) (xCons (xD (xC (.int 0))) (xCons (xMove 2) xNil))))))))
def sp_law_deck : Sp3 := fun ts Q _ => ∃ a ns, ts = [.sc a ns] ∧ ns.length ≤ 63 ∧ ∀ p l, DeckOk 100000000 l → Q (.own p l) [.sc a ns]
theorem v_law_deck (ts Q E) (h : sp_law_deck ts Q E) : body_law_deck { nx := fun r => finOk ts r ∧ Q (.d .none) (finF ts r), rt := fun x r => finOk ts r ∧ Q x (finF ts r) } (start3 N_law_deck ts) := by
  obtain ⟨a, ns, rfl, hl, q⟩ := h
  have ec : cutL ns none (some 63) = ns := by
    unfold cutL
    have e1 : HT.sIx ns.length ns.length (some (63 : Int)) = ns.length := by
      show HT.sIx ns.length ns.length (some ((63 : Nat) : Int)) = _
      rw [HT.sIx_nat, Nat.min_eq_right hl]
    rw [e1, HT.sIx_none, Nat.sub_zero, List.drop_zero, List.take_length]
  have al : ∀ l : List Int, alld (l.map fun n => T.d (.int n)) = true := fun l => alld_map _ _
  have ai : ∀ l : List Int, allI (fzs (l.map fun n => T.d (.int n))) = true := fun l => by rw [fzs_map]; exact allI_map l
  have few : ns.length + 1 ≤ sizeLine := Nat.le_trans (show ns.length + 1 ≤ 64 by omega) (by decide)
  have mk : ∀ (k : Int), 0 ≤ k → k < 64 → MulOk 853 k := fun k h0 h1 => mulOkL (by decide) (by decide)
  have low : ∀ x m : Int, 0 < m → 0 ≤ x % m ∧ x % m < m := fun x m h => ⟨Int.emod_nonneg x (by omega), Int.emod_lt_of_pos x h⟩
  have nm : ∀ l : List Int, nvs (l.map fun n => T.d (.int n)) = true := fun l => nvs_map _ _
  refine fun p0 => ⟨nm _, sz 1, fun p1 => ⟨rfl, ?_⟩⟩
  rw [ec, fzo]
  refine ⟨by rw [List.length_map]; exact few, fun p => fun p2 => ⟨nm _, ?_⟩⟩
  rw [ec, fzo]
  refine ⟨allI_map _, mulOkR (by decide) (by decide), mulOkL (by decide) (by decide), (show (0 : Int) < 2147483647 by decide), fun p3 => ⟨nm _, ?_⟩⟩
  rw [ec, fzo]
  have e1 : ((ns.map PyData.int).map T.d ++ [PyData.int ns.length].map T.d) = (ns ++ [(ns.length : Int)]).map fun x => T.d (.int x) := by simp
  have e2 := low ((intL (ns.map PyData.int)).sum * 48271 + 7 * ns.length + 5) 2147483647 (by decide)
  generalize hseed : ((intL (ns.map PyData.int)).sum * 48271 + 7 * (ns.length : Int) + 5) % 2147483647 = seed at e2
  have fin : ∀ cells : List Int, cells.length = ns.length + 1 → ∀ b1 b2 : Option T, finOk [T.sc a ns] [some (.sc a ns), none, none, b1, b2] ∧ ∀ pd, Q (.own pd [.own p (cells.map fun x => .d (.int x)), .d (.int 0), .d (.int seed)]) [.sc a ns] := fun cells hc b1 b2 => ⟨⟨⟩, fun pd => q pd _ ⟨p, cells, 0, seed, rfl, by omega, by omega, by decide, by omega, by omega, by omega⟩⟩
  refine ⟨allI_map _, (show (0 : Int) < 2 by decide), fun _ => ?_, fun _ => ?_⟩
  · have e9 : ((ns.map PyData.int).map T.d ++ (fzs [T.d (PyData.int ns.length)]).map T.d).length = ns.length + 1 := by rw [List.length_append, List.length_map, List.length_map]; rfl
    refine ⟨by omega, by omega, fun (i : Nat) (r : Rho) => ∃ (cells : List Int) (k m : Option T), r = [some (.sc a ns), some (.own p (cells.map fun x => T.d (.int x))), some (.d (.int seed)), k, m] ∧ cells.length = ns.length + 1, ⟨ns ++ [(ns.length : Int)], none, none, ?_, by simp⟩, fun i x r hx hW => ?_, fun r hW => ?_⟩
    · rw [← hseed, ← e1]; rfl
    · obtain ⟨cells, k, m, rfl, hc⟩ := hW
      obtain ⟨hi, rfl⟩ := rangeI_get hx
      have hi2 : (i : Int) < ((cells.map fun x => T.d (.int x)).length : Int) := by rw [List.length_map]; omega
      obtain ⟨x, g1, g2, _⟩ := getI_of (l := cells.map fun x => T.d (.int x)) (i := (i : Int)) (by omega) hi2
      obtain ⟨y, _, rfl⟩ : ∃ y, cells[i]? = some y ∧ x = .d (.int y) := by
        rw [Int.toNat_natCast, List.getElem?_map] at g2
        cases e : cells[i]? with
        | none => rw [e] at g2; cases g2
        | some y => rw [e] at g2; exact ⟨y, rfl, (Option.some.inj g2).symm⟩
      have sL : ∀ x m z : Int, 0 < m → m < 2 ^ 62 → MulOk (x % m) z := fun x m z h h2 => by
        have := low x m h
        exact mulOkL (by omega) (by omega)
      rw [Int.zero_add]
      exact ⟨rfl, _, g1, (show (0 : Int) < 2147483587 by decide), mulOkL (by decide) (by decide), mulOkR (by decide) (by decide), (show (0 : Int) < 2147483629 by decide),
        sL _ _ _ (by decide) (by decide), mulOkL (by decide) (by decide), (show (0 : Int) < 2147483563 by decide), mulOkR (by decide) (by decide), (show (0 : Int) < 2147483549 by decide),
        sL _ _ _ (by decide) (by decide), mulOkR (by decide) (by decide), sL _ _ _ (by decide) (by decide), (show (0 : Int) < 2147483579 by decide), _, setI_in _ (by omega) hi2, cells.set i _, _, _, by rw [Int.toNat_natCast, List.map_set]; rfl, by rw [List.length_set]; exact hc⟩
    · obtain ⟨cells, k, m, rfl, hc⟩ := hW
      exact ⟨sz 3, fun pd => ⟨⟨⟩, (fin cells hc k m).2 pd⟩⟩
  · rw [← hseed] at fin
    have f := fin (ns ++ [(ns.length : Int)]) (by simp) none none
    rw [← e1] at f
    exact ⟨sz 3, fun pd => ⟨⟨⟩, f.2 pd⟩⟩
end L3
namespace L3
open PySem PySem.Spec PyProof.Rows L2
local macro_rules | `(tactic| wtm_at "sh") => `(tactic| conv => whnf)
end L3
namespace L3
open PySem PySem.Spec PyProof.Rows L2
local macro_rules | `(tactic| wtm_at "sh") => `(tactic| conv => whnf)
/-! ## nested data once more -/
theorem nest_lay : ∀ (n : Nat) (x : PyData), Nest n x → PyData.canLay0 x = true ∧ PyData.depth x ≤ n
  | 0, _, h => h.elim
  | n + 1, x, h => by
    have all : ∀ l : List PyData, (∀ y ∈ l, Nest n y) → PyData.canLayAll0 l = true ∧ PyData.depthAll l ≤ n := by
      intro l
      induction l with
      | nil => intro _; exact ⟨by simp [PyData.canLayAll0], by simp [PyData.depthAll]⟩
      | cons y l ih =>
        intro hl
        obtain ⟨h1, h2⟩ := nest_lay n y (hl y (by simp))
        obtain ⟨h3, h4⟩ := ih fun z hz => hl z (List.mem_cons_of_mem _ hz)
        refine ⟨by simp [PyData.canLayAll0, h1, h3], ?_⟩
        rw [PyData.depthAll]; omega
    cases x with
    | none => exact ⟨by simp [PyData.canLay0], by simp [PyData.depth]⟩
    | int i => exact ⟨by simp [PyData.canLay0], by simp [PyData.depth]⟩
    | str i =>
      refine ⟨?_, by simp [PyData.depth]⟩
      have h1 : SeqAt.shaped (.str i) = true := h
      unfold SeqAt.shaped at h1
      rw [Bool.and_eq_true] at h1
      exact h1.1
    | tuple l =>
      obtain ⟨h1, h2⟩ := all l h.2
      refine ⟨by simpa [PyData.canLay0] using h1, ?_⟩
      rw [PyData.depth]; omega
    | list l =>
      obtain ⟨h1, h2⟩ := all l h.2
      refine ⟨by simpa [PyData.canLay0] using h1, ?_⟩
      rw [PyData.depth]; omega
    | bool b => exact h.elim
    | dict l => exact h.elim
theorem nest_shaped {n : Nat} {x : PyData} (h : Nest n x) (hn : n ≤ 64) : SeqAt.shaped x = true := by
  obtain ⟨h1, h2⟩ := nest_lay n x h
  unfold SeqAt.shaped
  rw [Bool.and_eq_true]
  exact ⟨h1, decide_eq_true (by omega)⟩
theorem nest_pr {n : Nat} (p : Int × Int) : Nest (n + 2) (prI p) :=
  ⟨show 2 < sizeLine by decide, fun y hy => by
    rcases List.mem_cons.mp hy with rfl | hy
    · exact ⟨⟩
    · rw [List.mem_singleton.mp hy]; exact ⟨⟩⟩
/-! ## best.py: the best ones -/
/-- one miss is less than another: the later one than the one ahead -/
def lessM (l : List (Int × Int)) (p q : Int) : Bool := isMore (missL l p) (missL l q)
def bestS (l : List (Int × Int)) (acc : List Int) (q : Int) : List Int := if acc = [] ∨ (∃ p, acc.getLast? = some p ∧ lessM l p q = true) then acc ++ [q] else acc
instance (l : List (Int × Int)) (acc : List Int) (q : Int) : Decidable (acc = [] ∨ (∃ p, acc.getLast? = some p ∧ lessM l p q = true)) := by
  cases h : acc.getLast? with
  | none => exact .isTrue (.inl (by simpa using h))
  | some p =>
    by_cases e : lessM l p q = true
    · exact .isTrue (.inr ⟨p, rfl, e⟩)
    · refine .isFalse fun h2 => ?_
      rcases h2 with h2 | ⟨p', h3, h4⟩
      · subst h2; cases h
      · cases h3; exact e h4
/-- the best numbers up to n -/
def bestL (l : List (Int × Int)) : Nat → List Int
  | 0 => []
  | n + 1 => bestS l (bestL l n) (n + 1 : Nat)
theorem missL_ok {l : List (Int × Int)} {q : Int} (ok : OkA l) : 0 ≤ (missL l q).1 ∧ 0 < (missL l q).2 ∧ Sz 2000 (missL l q).1 ∧ Sz 2000 (missL l q).2 := by
  have m0 := missF_take (q := q) (fun p hp => (ok p hp).1) l.length
  rw [List.take_length] at m0
  obtain ⟨h0, h1, h2, h3⟩ := m0
  have sm : Sz 2000 (missF l q).2 := by
    rcases h3 with e | ⟨p, hp, e⟩
    · rw [e]; exact (show Sz 2 1 from by unfold Sz; decide).mono (by decide)
    · rw [e]; exact (ok p hp).2.2
  have hg : 0 < (Int.gcd (missF l q).1 (missF l q).2 : Int) := by
    have : Int.gcd (missF l q).1 (missF l q).2 ≠ 0 := fun e => by
      rw [Int.gcd_eq_zero_iff] at e
      omega
    omega
  have hd : (Int.gcd (missF l q).1 (missF l q).2 : Int) ≤ (missF l q).2 := Int.le_of_dvd h2 (Int.gcd_dvd_right ..)
  refine ⟨Int.ediv_nonneg h0 (by omega), ?_, (sm.le (by omega)).div hg, sm.div hg⟩
  have : 1 ≤ (missF l q).2 / (Int.gcd (missF l q).1 (missF l q).2 : Int) := Int.le_ediv_of_mul_le hg (by omega)
  show 0 < (missF l q).2 / (Int.gcd (missF l q).1 (missF l q).2 : Int)
  omega
theorem eqv_nilL {l : List PyData} (h : l ≠ []) : PyData.eqv (.list l) (.list []) = false := by
  cases l with
  | nil => exact absurd rfl h
  | cons x l => simp only [PyData.eqv, PyData.eqvAll]
end L3
namespace L3
open PySem PySem.Spec PyProof.Rows L2
local macro_rules | `(tactic| wtm_at "sh") => `(tactic| conv => whnf)
theorem get_fz {α : Type} {f : α → PyData} {l : List α} {j : Nat} {x : PyData} (h : (fzs (l.map fun q => T.d (f q)))[j]? = some x) : ∃ q, l[j]? = some q ∧ x = f q := by
  rw [fzs_map, List.getElem?_map] at h
  cases e : l[j]? with
  | none => rw [e] at h; cases h
  | some q => rw [e] at h; exact ⟨q, rfl, (Option.some.inj h).symm⟩
end L3
namespace L3
open PySem PySem.Spec PyProof.Rows L2
local macro_rules | `(tactic| wtm_at "sh") => `(tactic| conv => whnf)
/-! ## best.py: the next better one -/
end L3
namespace L3
open PySem PySem.Spec PyProof.Rows L2
local macro_rules | `(tactic| wtm_at "sh") => `(tactic| conv => whnf)
/-! ## the best ones: what stands in their list -/
end L3
namespace L3
open PySem PySem.Spec PyProof.Rows L2
local macro_rules | `(tactic| wtm_at "sh") => `(tactic| conv => whnf)
end L3
namespace L3
open PySem PySem.Spec PyProof.Rows L2
local macro_rules | `(tactic| wtm_at "sh") => `(tactic| conv => whnf)
/-! ## one fraction: how far off -/
def dst (a b q : Int) : Int := if 2 * (q * a % b) ≤ b then q * a % b else b - q * a % b
theorem dst_le {a b q : Int} (t : Int) (hb : 0 < b) : dst a b q ≤ (q * a - t * b).natAbs := by
  have h1 := Int.emod_nonneg (q * a) (show b ≠ 0 by omega)
  have h2 := Int.emod_lt_of_pos (q * a) hb
  have h3 : q * a = b * (q * a / b) + q * a % b := (Int.mul_ediv_add_emod (q * a) b).symm
  unfold dst
  generalize q * a % b = r at *
  generalize q * a / b = f at *
  have h4 : q * a - t * b = (f - t) * b + r := by rw [h3]; grind
  rw [h4]
  generalize f - t = x at *
  rcases Int.lt_trichotomy x 0 with h | h | h
  · have : x * b ≤ (-1) * b := Int.mul_le_mul_of_nonneg_right (by omega) (by omega)
    split <;> omega
  · subst h
    rw [Int.zero_mul]
    split <;> omega
  · have : 1 * b ≤ x * b := Int.mul_le_mul_of_nonneg_right (by omega) (by omega)
    split <;> omega
theorem dst_at (a b q : Int) (hb : 0 < b) : ∃ t, dst a b q = (q * a - t * b).natAbs := by
  have h1 := Int.emod_nonneg (q * a) (show b ≠ 0 by omega)
  have h2 := Int.emod_lt_of_pos (q * a) hb
  have h3 : q * a = b * (q * a / b) + q * a % b := (Int.mul_ediv_add_emod (q * a) b).symm
  unfold dst
  generalize q * a % b = r at *
  generalize q * a / b = f at *
  split
  · exact ⟨f, by
      have : q * a - f * b = r := by rw [h3]; grind
      rw [this]; omega⟩
  · exact ⟨f + 1, by
      have : q * a - (f + 1) * b = r - b := by rw [h3]; grind
      rw [this]; omega⟩
theorem dst_nonneg (a b q : Int) (hb : 0 < b) : 0 ≤ dst a b q := by
  obtain ⟨t, e⟩ := dst_at a b q hb
  omega
/-- the miss of one fraction is its distance -/
theorem missL_one {A B : Int} (hB : 0 < B) (q : Int) : (missL [(A, B)] q).1 * (inL A B).2 = dst (inL A B).1 (inL A B).2 q * (missL [(A, B)] q).2 := by
  have hg : 0 < (Int.gcd A B : Int) := by
    have : Int.gcd A B ≠ 0 := fun e => by rw [Int.gcd_eq_zero_iff] at e; omega
    omega
  have eA : A = Int.gcd A B * (inL A B).1 := (Int.mul_ediv_cancel' (Int.gcd_dvd_left ..)).symm
  have eB : B = Int.gcd A B * (inL A B).2 := (Int.mul_ediv_cancel' (Int.gcd_dvd_right ..)).symm
  have hb : 0 < (inL A B).2 := by
    rcases Int.lt_or_le 0 (inL A B).2 with h | h
    · exact h
    · have := Int.mul_nonpos_of_nonneg_of_nonpos (Int.le_of_lt hg) h
      omega
  have en : (near (q * A) B).2 = Int.gcd A B * dst (inL A B).1 (inL A B).2 q := by
    generalize (inL A B).1 = a at *
    generalize (inL A B).2 = b at *
    generalize (Int.gcd A B : Int) = g at *
    subst eA
    subst eB
    have h1 := Int.emod_nonneg (q * a) (show b ≠ 0 by omega)
    have h2 := Int.emod_lt_of_pos (q * a) hb
    have e1 : q * (g * a) - q * (g * a) / (g * b) * (g * b) = g * (q * a % b) := by
      have e2 : q * (g * a) = g * (q * a) := by grind
      rw [e2, ← Int.mul_emod_mul_of_pos _ _ hg]
      have := Int.mul_ediv_add_emod (g * (q * a)) (g * b)
      rw [Int.mul_comm (g * b)] at this
      omega
    unfold near dst
    rw [e1]
    by_cases c : 2 * (q * a % b) ≤ b
    · have c2 : 2 * (g * (q * a % b)) ≤ g * b := by
        have := Int.mul_le_mul_of_nonneg_left c (Int.le_of_lt hg)
        have e : g * (2 * (q * a % b)) = 2 * (g * (q * a % b)) := by grind
        omega
      rw [if_pos c, if_pos c2]
    · have c2 : ¬ 2 * (g * (q * a % b)) ≤ g * b := by
        have := Int.mul_lt_mul_of_pos_left (show b < 2 * (q * a % b) by omega) hg
        have e : g * (2 * (q * a % b)) = 2 * (g * (q * a % b)) := by grind
        omega
      rw [if_neg c, if_neg c2]
      show g * b - g * (q * a % b) = g * (b - q * a % b)
      grind
  have em : missF [(A, B)] q = if 0 < (near (q * A) B).2 then ((near (q * A) B).2, B) else (0, 1) := by
    show missS q (0, 1) (A, B) = _
    unfold missS isMore
    by_cases c : 0 < (near (q * A) B).2
    · rw [if_pos c, if_pos (decide_eq_true (by show (0 : Int) * B < (near (q * A) B).2 * 1; omega))]
    · rw [if_neg c, if_neg (by rw [decide_eq_true_eq]; show ¬ (0 : Int) * B < (near (q * A) B).2 * 1; omega)]
  have cross : ∀ x y : Int, 0 < y → (inL x y).1 * y = x * (inL x y).2 := fun x y hy => by
    have d1 : x = Int.gcd x y * (inL x y).1 := (Int.mul_ediv_cancel' (Int.gcd_dvd_left ..)).symm
    have d2 : y = Int.gcd x y * (inL x y).2 := (Int.mul_ediv_cancel' (Int.gcd_dvd_right ..)).symm
    generalize (inL x y).1 = u at *
    generalize (inL x y).2 = v at *
    generalize (Int.gcd x y : Int) = h at *
    rw [d1, d2]
    grind
  unfold missL
  rw [em]
  by_cases c : 0 < (near (q * A) B).2
  · rw [if_pos c]
    have e1 := cross (near (q * A) B).2 B hB
    generalize (inL (near (q * A) B).2 B).1 = u at *
    generalize (inL (near (q * A) B).2 B).2 = v at *
    rw [en] at e1
    generalize dst (inL A B).1 (inL A B).2 q = d at *
    generalize (inL A B).2 = b at *
    generalize (Int.gcd A B : Int) = g at *
    have e2 : g * (u * b) = g * (d * v) := by
      rw [eB] at e1
      grind
    exact Int.eq_of_mul_eq_mul_left (by omega) e2
  · rw [if_neg c]
    have z : dst (inL A B).1 (inL A B).2 q = 0 := by
      have h0 := dst_nonneg (inL A B).1 (inL A B).2 q hb
      rcases Int.lt_or_le 0 (dst (inL A B).1 (inL A B).2 q) with h | h
      · have := Int.mul_pos hg h
        omega
      · omega
    rw [z]
    have : inL 0 1 = (0, 1) := by decide
    rw [this]
    omega
theorem inL_pos {A B : Int} (hB : 0 < B) : 0 < (inL A B).2 ∧ (inL A B).2 ≤ B := by
  have hg : 0 < (Int.gcd A B : Int) := by
    have : Int.gcd A B ≠ 0 := fun e => by rw [Int.gcd_eq_zero_iff] at e; omega
    omega
  have hd : (Int.gcd A B : Int) ≤ B := Int.le_of_dvd hB (Int.gcd_dvd_right ..)
  have h1 : 1 ≤ B / (Int.gcd A B : Int) := Int.le_ediv_of_mul_le hg (by omega)
  exact ⟨show 0 < B / (Int.gcd A B : Int) by omega, Int.ediv_le_self _ (by omega)⟩
theorem lessM_one {A B : Int} (hB : 0 < B) (ok : OkA [(A, B)]) (p q : Int) : lessM [(A, B)] p q = decide (dst (inL A B).1 (inL A B).2 q < dst (inL A B).1 (inL A B).2 p) := by
  have hb := (inL_pos (A := A) hB).1
  have e1 := missL_one (A := A) hB p
  have e2 := missL_one (A := A) hB q
  have p1 := (missL_ok (q := p) ok).2.1
  have p2 := (missL_ok (q := q) ok).2.1
  unfold lessM isMore
  generalize (missL [(A, B)] p).1 = x1 at *
  generalize (missL [(A, B)] p).2 = x2 at *
  generalize (missL [(A, B)] q).1 = y1 at *
  generalize (missL [(A, B)] q).2 = y2 at *
  generalize dst (inL A B).1 (inL A B).2 p = dp at *
  generalize dst (inL A B).1 (inL A B).2 q = dq at *
  generalize (inL A B).2 = b at *
  have f1 : y1 * x2 * b = dq * (x2 * y2) := by
    have : y1 * x2 * b = (y1 * b) * x2 := by grind
    rw [this, e2]; grind
  have f2 : x1 * y2 * b = dp * (x2 * y2) := by
    have : x1 * y2 * b = (x1 * b) * y2 := by grind
    rw [this, e1]; grind
  have hp : 0 < x2 * y2 := Int.mul_pos p1 p2
  have iff1 : y1 * x2 < x1 * y2 ↔ dq < dp := by
    constructor
    · intro h
      have := Int.mul_lt_mul_of_pos_right h hb
      rw [f1, f2] at this
      exact Int.lt_of_mul_lt_mul_right this (by omega)
    · intro h
      have := Int.mul_lt_mul_of_pos_right h hp
      rw [← f1, ← f2] at this
      exact Int.lt_of_mul_lt_mul_right this (by omega)
  exact decide_eq_decide.mpr iff1
/-! ## the steps -/
structure Cf (a b h n be re : Int) : Prop where
  ex : ∃ s p0 p1 : Int, (s = 1 ∨ s = -1) ∧ n * a - p1 * b = s * re ∧ h * a - p0 * b = -s * be ∧ (h = 0 → s = 1) ∧ (1 ≤ h → s = 1 → 2 * be < b)
  sum : n * be + h * re = b
  h0 : 0 ≤ h
  hn : h ≤ n
  n1 : 1 ≤ n
  r0 : 0 ≤ re
  rb : re < be
  z : h = 0 → n = 1
theorem Cf.start {a b : Int} (hb : 0 < b) : Cf a b 0 1 b (a % b) := by
  have h3 := Int.mul_ediv_add_emod a b
  exact ⟨⟨1, 1, a / b, .inl rfl, by rw [Int.mul_comm (a / b)]; omega, by omega, fun _ => rfl, fun h => absurd h (by decide)⟩, by omega, by decide, by decide, by decide, Int.emod_nonneg _ (by omega), Int.emod_lt_of_pos _ hb, fun _ => rfl⟩
theorem Cf.det {a b h n be re s p0 p1 : Int} (hb : 0 < b) (e1 : n * a - p1 * b = s * re) (e2 : h * a - p0 * b = -s * be) (sum : n * be + h * re = b) : n * p0 - h * p1 = s := by
  have : (n * p0 - h * p1) * b = s * b := by
    have e3 : (n * p0 - h * p1) * b = s * (n * be + h * re) := by grind
    rw [e3, sum]
  exact Int.eq_of_mul_eq_mul_right (by omega) this
/-- nothing ahead of n is nearer than what is left -/
theorem Cf.far {a b h n be re : Int} (hb : 0 < b) (c : Cf a b h n be re) (hh : 1 ≤ h) {j : Int} (j0 : 0 < j) (jn : j < n) : be ≤ dst a b j := by
  obtain ⟨⟨s, p0, p1, hs, e1, e2, _, _⟩, sum, h0, hn, n1, r0, rb, z⟩ := c
  have dt := Cf.det hb e1 e2 sum
  obtain ⟨t, et⟩ := dst_at a b j hb
  rw [et]
  have ss : s * s = 1 := by rcases hs with rfl | rfl <;> rfl
  -- j = x h + y n, t = x p0 + y p1
  obtain ⟨x, hx⟩ : ∃ x, x = -s * (j * p1 - t * n) := ⟨_, rfl⟩
  obtain ⟨y, hy⟩ : ∃ y, y = -s * (h * t - p0 * j) := ⟨_, rfl⟩
  have ej : j = x * h + y * n := by
    have : x * h + y * n = s * (n * p0 - h * p1) * j := by rw [hx, hy]; grind
    rw [this, dt, ss]; omega
  have et2 : t = x * p0 + y * p1 := by
    have : x * p0 + y * p1 = s * (n * p0 - h * p1) * t := by rw [hx, hy]; grind
    rw [this, dt, ss]; omega
  have ev : j * a - t * b = -s * (x * be - y * re) := by
    have : j * a - t * b = x * (h * a - p0 * b) + y * (n * a - p1 * b) := by
      rw [ej, et2]; grind
    rw [this, e1, e2]; grind
  have eabs : (j * a - t * b).natAbs = (x * be - y * re).natAbs := by
    rw [ev, Int.natAbs_mul]
    have : (-s).natAbs = 1 := by rcases hs with rfl | rfl <;> rfl
    rw [this, Nat.one_mul]
  rw [eabs]
  clear hx hy ev eabs et et2 e1 e2 dt
  rcases Int.lt_trichotomy y 0 with hy | hy | hy
  · have h1 : y * n ≤ (-1) * n := Int.mul_le_mul_of_nonneg_right (by omega) (by omega)
    have h2 : 0 < x * h := by omega
    have h3 : 0 < x := Int.pos_of_mul_pos_left h2 (by omega)
    have h4 : 1 * be ≤ x * be := Int.mul_le_mul_of_nonneg_right (by omega) (by omega)
    have h5 : y * re ≤ 0 := Int.mul_nonpos_of_nonpos_of_nonneg (by omega) r0
    omega
  · subst hy
    have h2 : 0 < x * h := by omega
    have h3 : 0 < x := Int.pos_of_mul_pos_left h2 (by omega)
    have h4 : 1 * be ≤ x * be := Int.mul_le_mul_of_nonneg_right (by omega) (by omega)
    omega
  · have h1 : 1 * n ≤ y * n := Int.mul_le_mul_of_nonneg_right (by omega) (by omega)
    have h2 : x * h < 0 := by omega
    have h3 : x < 0 := by
      rcases Int.lt_or_le x 0 with h | h
      · exact h
      · have := Int.mul_nonneg h h0
        omega
    have h4 : x * be ≤ (-1) * be := Int.mul_le_mul_of_nonneg_right (by omega) (by omega)
    have h5 : 0 ≤ y * re := Int.mul_nonneg (by omega) r0
    omega
theorem Cf.near {a b h n be re : Int} (hb : 0 < b) (c : Cf a b h n be re) : dst a b n ≤ re ∧ dst a b h ≤ be := by
  obtain ⟨⟨s, p0, p1, hs, e1, e2, _, _⟩, sum, h0, hn, n1, r0, rb, z⟩ := c
  have k1 := dst_le (a := a) (q := n) p1 hb
  have k2 := dst_le (a := a) (q := h) p0 hb
  rw [e1] at k1
  rw [e2] at k2
  rcases hs with rfl | rfl <;> constructor <;> omega
/-- what two neighbours among the best ones of one fraction are to each other -/
def Pair1 (a b v u : Int) : Prop := ∃ s p0 p1 be re : Int, (s = 1 ∨ s = -1) ∧ u * a - p1 * b = s * re ∧ v * a - p0 * b = -s * be ∧ u * p0 - v * p1 = s ∧ 0 ≤ re ∧ re < be ∧ 2 * re < b ∧ 2 * be ≤ b ∧ (s = 1 → 2 * be < b)
def PairsOk (a b : Int) (ns : List Int) : Prop := ∀ (i : Nat) (v u : Int), ns[i]? = some v → ns[i + 1]? = some u → Pair1 a b v u
theorem PairsOk.push {a b : Int} {ns : List Int} {h n : Int} (p : PairsOk a b ns) (hl : ns = [] ∨ (ns.getLast? = some h ∧ Pair1 a b h n)) : PairsOk a b (ns ++ [n]) := by
  intro i v u h1 h2
  by_cases hi : i + 1 < ns.length
  · rw [List.getElem?_append_left hi] at h2
    rw [List.getElem?_append_left (by omega)] at h1
    exact p i v u h1 h2
  · have hi2 : i + 1 = ns.length := by
      have := (List.getElem?_eq_some_iff.mp h2).1
      rw [List.length_append] at this
      simp at this
      omega
    rw [List.getElem?_append_left (by omega)] at h1
    rw [List.getElem?_append_right (by omega), hi2, Nat.sub_self] at h2
    have hu : u = n := by simpa using h2.symm
    rcases hl with hl | ⟨hl, hp⟩
    · rw [hl] at hi2
      simp at hi2
    · have hv : v = h := by
        rw [List.getLast?_eq_getElem?, ← hi2, Nat.add_sub_cancel, h1] at hl
        exact Option.some.inj hl
      rw [hu, hv]; exact hp
theorem PairsOk.pop {a b : Int} {ns : List Int} (p : PairsOk a b ns) : PairsOk a b ns.dropLast := by
  intro i v u h1 h2
  rw [List.getElem?_dropLast] at h1 h2
  split at h1
  · split at h2
    · exact p i v u h1 h2
    · cases h2
  · cases h1
end L3
namespace L3
open PySem PySem.Spec PyProof.Rows L2
local macro_rules | `(tactic| wtm_at "sh") => `(tactic| conv => whnf)
theorem bestL_stay {l : List (Int × Int)} {x : Nat} {w : Int} (hw : (bestL l x).getLast? = some w) : ∀ (d : Nat), (∀ j : Int, x < j → j ≤ x + d → lessM l w j = false) → bestL l (x + d) = bestL l x
  | 0, _ => rfl
  | d + 1, h => by
    have ih := bestL_stay hw d fun j h1 h2 => h j h1 (by omega)
    show bestS l (bestL l (x + d)) ((x + d + 1 : Nat) : Int) = _
    rw [ih]
    refine if_neg fun hc => ?_
    rcases hc with hc | ⟨v, hv, hl⟩
    · rw [hc] at hw; cases hw
    · rw [hw] at hv
      cases hv
      rw [h _ (by omega) (by omega)] at hl
      cases hl
theorem bestL_jump {l : List (Int × Int)} {x y : Nat} {w : Int} (hw : (bestL l x).getLast? = some w) (hxy : x < y) (h : ∀ j : Int, x < j → j < y → lessM l w j = false) (k : lessM l w y = true) : bestL l y = bestL l x ++ [(y : Int)] := by
  obtain ⟨d, rfl⟩ : ∃ d, y = x + d + 1 := ⟨y - x - 1, by omega⟩
  have st := bestL_stay hw d fun j h1 h2 => h j h1 (by omega)
  show bestS l (bestL l (x + d)) _ = _
  rw [st]
  exact if_pos (.inr ⟨w, hw, k⟩)
/-- what found holds when a number is pushed -/
theorem Cf.push {A B h n be re : Int} (hB : 0 < B) (ok : OkA [(A, B)]) (c : Cf (inL A B).1 (inL A B).2 h n be re) (hh : 1 ≤ h) (hn : h < n) (hw : (bestL [(A, B)] h.toNat).getLast? = some h) : bestL [(A, B)] n.toNat = bestL [(A, B)] h.toNat ++ [n] := by
  have hb := (inL_pos (A := A) hB).1
  have en : ((n.toNat : Nat) : Int) = n := Int.toNat_of_nonneg (by omega)
  have eh : ((h.toNat : Nat) : Int) = h := Int.toNat_of_nonneg (by omega)
  have nr := c.near hb
  have rb := c.rb
  have := bestL_jump (l := [(A, B)]) (x := h.toNat) (y := n.toNat) (w := h) hw (by omega) (fun j h1 h2 => by
    rw [lessM_one hB ok]
    have := c.far hb hh (j := j) (by omega) (by omega)
    exact decide_eq_false (by omega)) (by
    rw [lessM_one hB ok, en]
    have := c.far hb hh (j := h) (by omega) (by omega)
    exact decide_eq_true (by omega))
  rw [en] at this
  exact this
end L3
namespace L3
open PySem PySem.Spec PyProof.Rows L2
local macro_rules | `(tactic| wtm_at "sh") => `(tactic| conv => whnf)
end L3
namespace L3
open PySem PySem.Spec PyProof.Rows L2
local macro_rules | `(tactic| wtm_at "sh") => `(tactic| conv => whnf)
theorem cut_one {α : Type} {l : List α} (h : 0 < l.length) : cutL l (some 1) none = l.drop 1 := by
  unfold cutL
  rw [HT.sIx_none, show HT.sIx l.length 0 (some (1 : Int)) = min 1 l.length from HT.sIx_nat _ 0 1, Nat.min_eq_left h]
  rw [List.take_of_length_le (by rw [List.length_drop]; exact Nat.le_refl _)]
end L3
namespace L3
open PySem PySem.Spec PyProof.Rows L2
local macro_rules | `(tactic| wtm_at "sh") => `(tactic| conv => whnf)
end L3
namespace L3
open PySem PySem.Spec PyProof.Rows L2
local macro_rules | `(tactic| wtm_at "sh") => `(tactic| conv => whnf)
end L3
namespace L3
open PySem PySem.Spec PyProof.Rows L2 TL
local macro_rules | `(tactic| wtm_at "sh") => `(tactic| conv => whnf)
/-! ## numbers as texts -/
abbrev iS (i : Int) : Str := Str.ofString (toString i)
def signL (i : Int) : List Nat := if i < 0 then 45 :: numL i.natAbs else numL i.natAbs
theorem tl_iS (i : Int) : tl (iS i) = signL i := by
  unfold signL
  cases i with
  | ofNat n =>
    rw [if_neg (by show ¬ ((n : Nat) : Int) < 0; omega)]
    exact tl_num n
  | negSucc m =>
    rw [if_pos (by omega)]
    have e1 : toString (Int.negSucc m) = "-" ++ toString (((m + 1 : Nat) : Nat) : Int) := rfl
    show tl (Str.ofString (toString (Int.negSucc m))) = 45 :: numL (m + 1)
    rw [e1, tl_ofString, String.toList_append, List.map_append, ← tl_ofString (toString (((m + 1 : Nat) : Nat) : Int)), tl_num]
    rfl
theorem numL_sign {n c : Nat} (h : c ∈ numL n) : 48 ≤ c ∧ c ≤ 57 := by
  rcases Nat.lt_or_ge c 48 with h1 | h1
  · exact absurd h (numL_free (.inl h1))
  · rcases Nat.lt_or_ge 57 c with h2 | h2
    · exact absurd h (numL_free (.inr h2))
    · exact ⟨h1, h2⟩
theorem signL_sign {i : Int} {c : Nat} (h : c ∈ signL i) : c = 45 ∨ (48 ≤ c ∧ c ≤ 57) := by
  unfold signL at h
  split at h
  · rcases List.mem_cons.mp h with h | h
    · exact .inl h
    · exact .inr (numL_sign h)
  · exact .inr (numL_sign h)
theorem signL_len {i : Int} (h : i.natAbs < 10 ^ 100) : (signL i).length ≤ 101 := by
  have := numL_len (n := i.natAbs) (k := 100) (by decide) h
  unfold signL
  split
  · rw [List.length_cons]; omega
  · omega
theorem numL_head {n : Nat} {r : List Nat} : numL n = 48 :: r → n = 0 := by
  induction n using Nat.strongRecOn generalizing r with
  | _ n ih =>
    intro h
    rcases Nat.lt_or_ge n 10 with h1 | h1
    · rw [numL_lt h1] at h
      have := (List.cons.inj h).1
      omega
    · rw [numL_step h1] at h
      cases e : numL (n / 10) with
      | nil => exact absurd e (numL_ne _)
      | cons c r' =>
        rw [e] at h
        have hc : c = 48 := (List.cons.inj h).1
        have := ih (n / 10) (by omega) (r := r') (by rw [e, hc])
        omega
theorem get_fun {α β : Type} {f : α → β} {l : List α} {i : Nat} {x : β} (h : (l.map f)[i]? = some x) : ∃ c, l[i]? = some c ∧ x = f c := by
  rw [List.getElem?_map] at h
  cases e : l[i]? with
  | none => rw [e] at h; cases h
  | some c => rw [e] at h; exact ⟨c, rfl, (Option.some.inj h).symm⟩
def frS (p : Int × Int) : Str := iS p.1 ++ "/" ++ iS p.2
def askS (l : List (Int × Int)) : Str := Txt.join " " (l.map frS)
/-- numbers of no more than a hundred figures -/
def OkT (p : Int × Int) : Prop := 0 < p.2 ∧ p.1.natAbs < 10 ^ 100 ∧ p.2.natAbs < 10 ^ 100
theorem tl_frS (p : Int × Int) : tl (frS p) = signL p.1 ++ (47 :: signL p.2) := by
  unfold frS
  rw [tl_append, tl_append, tl_iS, tl_iS]
  show signL p.1 ++ [47] ++ signL p.2 = _
  simp
theorem frS_sign {p : Int × Int} {c : Nat} (h : c ∈ tl (frS p)) : c = 45 ∨ c = 47 ∨ (48 ≤ c ∧ c ≤ 57) := by
  rw [tl_frS] at h
  rcases List.mem_append.mp h with h | h
  · rcases signL_sign h with h | h
    · exact .inl h
    · exact .inr (.inr h)
  · rcases List.mem_cons.mp h with h | h
    · exact .inr (.inl h)
    · rcases signL_sign h with h | h
      · exact .inl h
      · exact .inr (.inr h)
theorem frS_len {p : Int × Int} (h : OkT p) : (tl (frS p)).length ≤ 203 := by
  rw [tl_frS, List.length_append, List.length_cons]
  have := signL_len h.2.1
  have := signL_len h.2.2
  omega
theorem joinL_sign {ps : List (List Nat)} {c : Nat} (h : c ∈ joinL [32] ps) : c = 32 ∨ ∃ p ∈ ps, c ∈ p := by
  induction ps with
  | nil => simp [joinL] at h
  | cons p r ih =>
    cases r with
    | nil => exact .inr ⟨p, by simp, h⟩
    | cons q r =>
      have h2 : c ∈ p ++ ([32] ++ joinL [32] (q :: r)) := h
      rcases List.mem_append.mp h2 with h2 | h2
      · exact .inr ⟨p, by simp, h2⟩
      · rcases List.mem_append.mp h2 with h2 | h2
        · exact .inl (by simpa using h2)
        · rcases ih h2 with h3 | ⟨z, hz, h3⟩
          · exact .inl h3
          · exact .inr ⟨z, List.mem_cons_of_mem _ hz, h3⟩
theorem joinL_len : ∀ (ps : List (List Nat)), (joinL [32] ps).length ≤ (ps.map (·.length)).sum + ps.length
  | [] => by simp [joinL]
  | [p] => by simp [joinL]
  | p :: q :: r => by
    have := joinL_len (q :: r)
    show (p ++ ([32] ++ joinL [32] (q :: r))).length ≤ _
    rw [List.length_append, List.length_append, List.map_cons, List.sum_cons, List.length_cons]
    simp only [List.length_cons, List.length_nil] at *
    omega
theorem tl_askS (l : List (Int × Int)) : tl (askS l) = joinL [32] (l.map fun p => tl (frS p)) := by
  unfold askS
  rw [join_eq, tl_join, List.map_map]
  rfl
theorem askS_sign {l : List (Int × Int)} {c : Nat} (h : c ∈ tl (askS l)) : c < 58 := by
  rw [tl_askS] at h
  rcases joinL_sign h with h | ⟨p, hp, h⟩
  · omega
  · obtain ⟨z, _, rfl⟩ := List.mem_map.mp hp
    rcases frS_sign h with h | h | h <;> omega
theorem shp_str {x : Str} (h : ∀ c ∈ tl x, c < 1114112) : SeqAt.shaped (.str x) = true := by
  unfold SeqAt.shaped
  rw [Bool.and_eq_true]
  refine ⟨?_, by simp [PyData.depth]⟩
  have : PyData.strOk x = true := by
    unfold PyData.strOk
    rw [Array.all_eq_true]
    intro i hi
    exact decide_eq_true (h _ (by simp [tl]))
  simpa [PyData.canLay0] using this
theorem eqv_strF {x y : Str} (h : x ≠ y) : PyData.eqv (.str x) (.str y) = false := by
  simp [PyData.eqv, h]
theorem eqv_strT (x : Str) : PyData.eqv (.str x) (.str x) = true := by
  simp [PyData.eqv]
end L3
namespace L3
open PySem PySem.Spec PyProof.Rows L2 TL
local macro_rules | `(tactic| wtm_at "sh") => `(tactic| conv => whnf)
theorem tl_cut (z : Str) (lo hi : Option Int) : tl (cutS z lo hi) = cutL (tl z) lo hi := by
  unfold cutS cutL
  rw [len_tl z]
theorem cutL_head {α : Type} {l : List α} {c : α} {r : List α} (h : l = c :: r) : cutL l none (some 1) = [c] := by
  subst h
  unfold cutL
  have e : HT.sIx (c :: r).length (c :: r).length (some (1 : Int)) = 1 := by
    show HT.sIx (c :: r).length (c :: r).length (some ((1 : Nat) : Int)) = 1
    rw [HT.sIx_nat, List.length_cons]
    omega
  rw [e, HT.sIx_none]
  rfl
theorem askS_len {l : List (Int × Int)} (h : ∀ p ∈ l, OkT p) : (tl (askS l)).length ≤ 204 * l.length := by
  rw [tl_askS]
  have h1 := joinL_len (l.map fun p => tl (frS p))
  have h2 : ∀ m : List (Int × Int), (∀ p ∈ m, OkT p) → (((m.map fun p => tl (frS p)).map (·.length)).sum) ≤ 203 * m.length := by
    intro m
    induction m with
    | nil => intro _; simp
    | cons p m ih =>
      intro hm
      have := frS_len (hm p (by simp))
      have := ih fun z hz => hm z (List.mem_cons_of_mem _ hz)
      simp only [List.map_cons, List.sum_cons, List.length_cons] at *
      omega
  have := h2 l h
  rw [List.length_map] at h1
  omega
end L3
namespace L3
open PySem PySem.Spec PyProof.Rows L2 TL
local macro_rules | `(tactic| wtm_at "sh") => `(tactic| conv => whnf)
abbrev leastP (p : Int × Int) : Int × Int := inL p.1 p.2
theorem sz_ten {x : Int} (h : x.natAbs < 10 ^ 100) : Sz 400 x := Nat.lt_of_lt_of_le h (by decide +kernel)
theorem iS_len {i : Int} (h : i.natAbs < 10 ^ 100) : (iS i).length ≤ 101 := by rw [len_tl, tl_iS]; exact signL_len h
theorem join_small {l : List (Int × Int)} (h : ∀ p ∈ l, OkT p) (hl : l.length ≤ 10) : ((l.map frS).map (·.length)).sum + (l.map frS).length * (" " : Str).length ≤ 16777216 := by
  have h2 : ∀ m : List (Int × Int), (∀ p ∈ m, OkT p) → ((m.map frS).map (·.length)).sum ≤ 203 * m.length := by
    intro m
    induction m with
    | nil => intro _; simp
    | cons p m ih =>
      intro hm
      have h1 := frS_len (hm p (by simp))
      have h0 : (frS p).length = (tl (frS p)).length := len_tl _
      have := ih fun z hz => hm z (List.mem_cons_of_mem _ hz)
      simp only [List.map_cons, List.sum_cons, List.length_cons] at *
      omega
  have := h2 l h
  have e : (" " : Str).length = 1 := by decide +kernel
  rw [e, List.length_map]
  omega
end L3
namespace L3
open PySem PySem.Spec PyProof.Rows L2 TL
local macro_rules | `(tactic| wtm_at "sh") => `(tactic| conv => whnf)
/-! ## one miss seen otherwise -/
end L3
namespace L3
open PySem PySem.Spec PyProof.Rows L2 TL
local macro_rules | `(tactic| wtm_at "sh") => `(tactic| conv => whnf)
end L3
namespace L3
open PySem PySem.Spec PyProof.Rows L2 TL
local macro_rules | `(tactic| wtm_at "sh") => `(tactic| conv => whnf)
/-- fractions as small as the law makes them -/
def AskS (l : List (Int × Int)) : Prop := l ≠ [] ∧ l.length ≤ 3 ∧ ∀ p ∈ l, 0 < p.2 ∧ p.2 ≤ 10000000000000000 ∧ 0 ≤ p.1 ∧ p.1 ≤ 10000000000000000
theorem szB {x : Int} (h0 : -100000000000000000000000000000 ≤ x) (h1 : x ≤ 100000000000000000000000000000) : Sz 2000 x := by
  unfold Sz; exact Nat.lt_of_lt_of_le (show x.natAbs < 2 ^ 100 by omega) (Nat.pow_le_pow_right (by decide) (by decide))
theorem AskS.ok {l : List (Int × Int)} (h : AskS l) : OkA l := fun p hp => by
  obtain ⟨h1, h2, h3, h4⟩ := h.2.2 p hp
  exact ⟨h1, szB (by omega) (by omega), szB (by omega) (by omega)⟩
theorem fz_own (p : Addr) {α : Type} (f : α → PyData) (l : List α) : fz (T.own p (l.map fun x => T.d (f x))) = .list (l.map f) := by
  show PyData.list (fzs (l.map fun x => T.d (f x))) = _
  rw [fzs_map]
/-! ### under a common number below -/
end L3
namespace L3
open PySem PySem.Spec PyProof.Rows L2 TL
local macro_rules | `(tactic| wtm_at "sh") => `(tactic| conv => whnf)
/-! ## the best ones seen otherwise -/
/-- a comprehension whose items tell data, one for each -/
theorem lc_gen {items : List PyData} (out : List PyData) (hlen : out.length = items.length) (hsz : items.length ≤ sizeLine) {r1 : Rho} {js : List Nat} {g : TG3} {te : TE3} {Fin : Addr → List T → Rho → Prop}
    (turn : ∀ r0, wp r1 js = r0 → ∀ (i : Nat) (x y : PyData), items[i]? = some x → out[i]? = some y → ∀ (R : T → Rho → Prop) (S : Rho → Prop), (∀ r4, wp r4 js = r0 → R (.d y) r4) → g (.d x) r0 fun r2 => xYes r2 fun b r3 => (b = true → te r3 R) ∧ (b = false → S r3))
    (fin : ∀ r0, wp r1 js = r0 → ∀ p, Fin p (out.map T.d) r0) :
    ∀ p, ∃ W : Nat → List T → Rho → Prop, W 0 [] (wp r1 js) ∧
      (∀ (i : Nat) (x : PyData) (acc : List T) (r : Rho), items[i]? = some x → W i acc r → g (.d x) r fun r2 => xYes r2 fun b r3 => (b = true → te r3 fun y r4 => acc.length < sizeLine ∧ W (i + 1) (acc ++ [y]) (wp r4 js)) ∧ (b = false → W (i + 1) acc (wp r3 js))) ∧
      ∀ acc r, W items.length acc r → Fin p acc r := fun p => by
  refine ⟨fun i acc r => r = wp r1 js ∧ acc = (out.take i).map T.d, ⟨rfl, rfl⟩, fun i x acc r hx hW => ?_, fun acc r hW => ?_⟩
  · obtain ⟨rfl, rfl⟩ := hW
    have hi : i < items.length := (List.getElem?_eq_some_iff.mp hx).1
    have ho : out[i]? = some out[i] := List.getElem?_eq_getElem (by omega)
    exact turn _ rfl i x _ hx ho _ _ fun r4 e => ⟨by rw [List.length_map, List.length_take]; omega, e, by rw [take_succ ho, List.map_append]; rfl⟩
  · obtain ⟨rfl, rfl⟩ := hW
    rw [← hlen, List.take_length]
    exact fin _ rfl p
theorem fz_outs (p : Addr) (out : List PyData) : fz (T.own p (out.map T.d)) = .list out := by
  show PyData.list (fzs _) = _
  rw [fzs_d]
theorem get_map2 {α β : Type} {f : α → β} {l : List α} {i : Nat} {u : α} {y : β} (h : (l.map f)[i]? = some y) (e : l[i]? = some u) : y = f u := by
  rw [List.getElem?_map, e] at h
  exact (Option.some.inj h).symm
def AskV (l : List (Int × Int)) : Prop := l ≠ [] ∧ l.length ≤ 3 ∧ ∀ p ∈ l, 0 < p.2 ∧ p.2 ≤ 100000000000000000 ∧ 0 ≤ p.1 ∧ p.1 ≤ 100000000000000000
theorem AskV.ok {l : List (Int × Int)} (h : AskV l) : OkA l := fun p hp => by
  obtain ⟨h1, h2, h3, h4⟩ := h.2.2 p hp
  exact ⟨h1, szB (by omega) (by omega), szB (by omega) (by omega)⟩
end L3
namespace L3
open PySem PySem.Spec PyProof.Rows L2 TL
local macro_rules | `(tactic| wtm_at "sh") => `(tactic| conv => whnf)
/-! ## refusals -/
def BadA (l : List (Int × Int)) : Prop := l = [] ∨ ∃ p ∈ l, p.2 < 1
def N_need_asking_x : List Str := ["asking", "above", "below"]
def body_need_asking_x (cN : Str → Addr) : TS3 := (xIfS (xOr (xTest (x2 kEq (xView 0) (xFz (xTup xNil)))) (xTest (x2 kNe (xFz (xLc (xSeqI (xView 0)) (xGTup 2 (xGCons (xGName 1) (xGCons (xGName 2) xGNil))) (xTest (x2 kLt (xView 2) (xC (.int 1)))) (xMove 2) [1, 2])) (xFz (xLst xNil))))) (xRaise (cN "NoAsking")) xNext)
def sp_need_asking_x (cN : Str → Addr) : Sp3 := fun ts Q E => ∃ l, ts = [.d (asD l)] ∧ l.length ≤ 1000 ∧ ((BadA l ∧ E (cN "NoAsking") ts) ∨ (l ≠ [] ∧ (∀ p ∈ l, 0 < p.2) ∧ Q (.d .none) ts))
theorem nest_lints {l : List Int} (h : l.length < sizeLine) : Nest 8 (.list (l.map PyData.int)) := ⟨by rw [List.length_map]; exact h, fun x hx => by obtain ⟨z, _, rfl⟩ := List.mem_map.mp hx; exact ⟨⟩⟩
theorem eqv_ints_nil (l : List Int) : PyData.eqv (.list (l.map PyData.int)) (.list []) = decide (l = []) := by
  cases l with
  | nil => rfl
  | cons x l => simp [PyData.eqv, PyData.eqvAll]
theorem v_need_asking_x (cN : Str → Addr) (ts Q E) (h : sp_need_asking_x cN ts Q E) : body_need_asking_x cN { nx := fun r => finOk ts r ∧ Q (.d .none) (finF ts r), rt := fun x r => finOk ts r ∧ Q x (finF ts r), ex := fun C r => finOk ts r ∧ E C (finF ts r) } (start3 N_need_asking_x ts) := by
  obtain ⟨l, rfl, hlen, h⟩ := h
  have hb : 1000 < sizeLine := by decide
  refine ⟨sz 0, shp_asD l, shp_nilT, fun hc => ⟨fun _ => ?_, nofun⟩, fun hc p => ?_⟩
  · rcases h with ⟨_, h⟩ | ⟨hl, _, _⟩
    · exact ⟨⟨⟩, h⟩
    · exact absurd (show PyData.eqv (asD l) (.tuple []) = true from hc) (by rw [eqv_nil (by simpa using hl)]; decide)
  · refine ⟨fun i acc r => r = [some (.d (asD l)), none, none] ∧ acc = (((l.take i).map Prod.snd).filter fun x => decide (x < 1)).map (fun x => T.d (.int x)), ⟨rfl, rfl⟩, fun i x acc r hx hW => ?_, fun acc r hW => ?_⟩
    · obtain ⟨rfl, rfl⟩ := hW
      obtain ⟨z, hz, rfl, hm⟩ := get_map hx
      have sz2 : ((((l.take i).map Prod.snd).filter fun x => decide (x < 1)).map (fun x => T.d (.int x))).length < sizeLine := by
        rw [List.length_map]
        have := List.length_filter_le (fun x : Int => decide (x < 1)) ((l.take i).map Prod.snd)
        rw [List.length_map, List.length_take] at this
        omega
      refine ⟨rfl, fun hc => ⟨sz2, rfl, ?_⟩, fun hc => ⟨rfl, ?_⟩⟩
      · rw [take_succ hz, List.map_append, List.filter_append, List.map_append, List.map_cons, List.map_nil, List.filter_cons_of_pos (by exact hc)]
        rfl
      · rw [take_succ hz, List.map_append, List.filter_append, List.map_append, List.map_cons, List.map_nil, List.filter_cons_of_neg (by rw [show decide (z.snd < 1) = false from hc]; decide)]
        simp
    · obtain ⟨rfl, hacc⟩ := hW
      rw [List.length_map, List.take_length] at hacc
      subst hacc
      have fl : (((l.map Prod.snd).filter fun x => decide (x < 1))).length < sizeLine := by
        have := List.length_filter_le (fun x : Int => decide (x < 1)) (l.map Prod.snd)
        rw [List.length_map] at this
        omega
      have key : ((l.map Prod.snd).filter fun x => decide (x < 1)) = [] ↔ ∀ p ∈ l, 0 < p.2 := by
        rw [List.filter_eq_nil_iff]
        constructor
        · intro h p hp
          have := h p.2 (List.mem_map.mpr ⟨p, hp, rfl⟩)
          have h2 : ¬ p.2 < 1 := fun c => this (decide_eq_true c)
          omega
        · intro h x hx
          obtain ⟨p, hp, rfl⟩ := List.mem_map.mp hx
          have := h p hp
          exact fun c => by have := of_decide_eq_true c; omega
      refine ⟨nvs_map _ _, sz 0, fun p => ⟨rfl, ?_⟩⟩
      rw [fz_own _ PyData.int ((l.map Prod.snd).filter fun x => decide (x < 1))]
      refine ⟨nest_shaped (nest_lints fl) (by decide), shp_nilL, ?_⟩
      show ((!PyData.eqv (.list (((l.map Prod.snd).filter fun x => decide (x < 1)).map PyData.int)) (.list [])) = true → _) ∧ ((!PyData.eqv (.list (((l.map Prod.snd).filter fun x => decide (x < 1)).map PyData.int)) (.list [])) = false → _)
      rw [eqv_ints_nil]
      rcases h with ⟨hbad, h⟩ | ⟨hl, hp, h⟩
      · refine ⟨fun _ => ⟨⟨⟩, h⟩, fun hc2 => ?_⟩
        have e : ((l.map Prod.snd).filter fun x => decide (x < 1)) = [] := by simpa using hc2
        rcases hbad with rfl | ⟨p, hp, hlt⟩
        · exact absurd (show PyData.eqv (asD []) (.tuple []) = false from hc) (by decide)
        · have := key.mp e p hp
          omega
      · refine ⟨fun hc2 => ?_, fun _ => ⟨⟨⟩, h⟩⟩
        rw [key.mpr hp] at hc2
        simp at hc2
/-- askings so small that all can be asked of them -/
def SmallA (l : List (Int × Int)) : Prop := l ≠ [] ∧ l.length ≤ 3 ∧ ∀ p ∈ l, 0 < p.2 ∧ p.2 ≤ 14 ∧ -1000000000000000000000 ≤ p.1 ∧ p.1 ≤ 1000000000000000000000
theorem SmallA.ok {l : List (Int × Int)} (h : SmallA l) : OkA l := fun p hp => by
  obtain ⟨h1, h2, h3, h4⟩ := h.2.2 p hp
  exact ⟨h1, szB (by omega) (by omega), szB (by omega) (by omega)⟩
def N_law_flags : List Str := ["_law_thing", "_law_found"]
def body_law_flags (cN : Str → Addr) : TS3 := (xSeq (xAsg (xLst (xCons (xD (xIsE errN cN errSub "NoAsking" (xView 0))) (xCons (xD (xIsE errN cN errSub "NoNumber" (xView 0))) (xCons (xD (xIsE errN cN errSub "NoText" (xView 0))) xNil)))) (xGName 1))
  (xSeq (xAsg (x2 cAdd (xView 1) (xFz (xLst (xCons (xD (xIsE errN cN errSub "NoLattice" (xView 0))) (xCons (xD (xIsE errN cN errSub "NoAsk" (xView 0))) xNil))))) (xGName 1))
  (xRet (x2 cAdd (xView 1) (xFz (xLst (xCons (xD (xNotV (xIsE errN cN errSub "UnderError" (xView 0)))) (xCons (xD (xNotV (xIsE errN cN errSub "ValueError" (xView 0)))) xNil))))))))
def flagsL (n : Str) : List Bool := [errSub n "NoAsking", errSub n "NoNumber", errSub n "NoText", errSub n "NoLattice", errSub n "NoAsk", !errSub n "UnderError", !errSub n "ValueError"]
def sp_law_flags (cN : Str → Addr) : Sp3 := fun ts Q _ => ∃ n, ts = [.d (excD (cN n))] ∧ n ∈ errN ∧ ∀ p, Q (.own p ((flagsL n).map fun b => T.d (.bool b))) ts
theorem v_law_flags (cN : Str → Addr) (ts Q E) (h : sp_law_flags cN ts Q E) : body_law_flags cN { nx := fun r => finOk ts r ∧ Q (.d .none) (finF ts r), rt := fun x r => finOk ts r ∧ Q x (finF ts r) } (start3 N_law_flags ts) := by
  obtain ⟨n, rfl, hn, k⟩ := h
  exact ⟨n, hn, rfl, n, hn, rfl, n, hn, rfl, sz 3, fun p1 => ⟨n, hn, rfl, n, hn, rfl, sz 2, fun p2 => ⟨rfl, rfl, rfl, sz 5, fun p3 => ⟨n, hn, rfl, n, hn, rfl, sz 2, fun p4 => ⟨rfl, rfl, rfl, sz 7, fun p5 => ⟨⟨⟩, k p5⟩⟩⟩⟩⟩⟩
end L3
set_option pp.maxSteps 600
namespace L3
open PySem PySem.Spec PyProof.Rows L2
/-! ## names for a list's items -/
def gTupL (K : PySem.W.Frag) (n : Nat) (t : TGs) : TG := fun v σ H Q => ∃ a xs, v = .ref a ∧ SqL K H a xs ∧ xs.length = n ∧ t xs σ H Q
theorem pg_tupL {X : Cx} {pos : Pos} {es : List Expr} {k : Nat} {t : TGs} {n : Nat} (hc : X.calm = true) (h : PGs X es t)
    (hn : (assignEach es X.env).length = n := by rfl) (hst : (assignEach es X.env).findIdx? (·.1) = none := by rfl) : L2.PG X (.Tuple es k pos) (gTupL X.K n t) := by
  refine ⟨fun pins s σ H v u Q I r hw => ?_⟩
  obtain ⟨a, xs, e1, hq, hl, hw⟩ := hw
  subst e1
  cases r
  obtain ⟨its, rv, pl, hz⟩ := I.list hq
  have hsz : (assignEach es X.env).length = its.toArray.size := by simp [hn, ← hl, rv.length]
  rw [assign_Tuple]
  refine wpAny_bind (wpAny_standAt ?_)
  unfold unpack
  rw [hsz, hst]
  refine wpAny_bind (wpAny_holding (PySem.W.kun_itemsOf (I.ok.hd hc) pl.isList fun h' hx => ?_))
  have I1 : Inv X pins σ H { s with heap := h' } := I.kept (t' := s.toks) fun b o e => hx b o (Nat.ne_of_lt (Heap.lt_size e)) e
  exact h.run pins _ σ H xs _ Q I1 (by simpa using rv) hw
def xGTupL (n : Nat) (gs : TGs3) : TG3 := fun x r Q => match x with | .own _ l => l.length = n ∧ gs l r Q | .d (.list l) => l.length = n ∧ gs (l.map T.d) r Q | _ => False
theorem g3_tupL {X : Cx} {pos : Pos} {es : List Expr} {js : List Nat} {gs : TGs3} {kk n : Nat} (hc : X.calm = true) (h : Gs3 X es js gs) (hn : (assignEach es X.env).length = n := by rfl) (hst : (assignEach es X.env).findIdx? (·.1) = none := by rfl) : G3 X (.Tuple es kk pos) js (xGTupL n gs) := by
  obtain ⟨te, ea, sa⟩ := h.ex
  refine ⟨_, pg_tupL hc ea hn hst, fun G Z H ks vs r s x v Q Q3 st hg k => ?_⟩
  unfold xGTupL at hg
  split at hg
  · rename_i a0 l
    cases st.top with
    | @own _ _ xs h1 h2 =>
      have hl : l.length = xs.length := rts_len h2
      have st0 := st.pop
      have st4 : S3 X.K G Z H (l ++ ks) (xs ++ vs) r s := ⟨st.zh, st.gh, fun a => by have := st.one a; simp only [cts, ct] at this; rw [cts_append]; omega, fun a c => st.ow a (by rw [cts_append] at c; simp only [cts, ct]; omega), rts_app h2 st0.stk, st.slot, st.len⟩
      exact ⟨a0, xs, rfl, SqL.of h1, by rw [← hl]; exact hg.1, sa G Z H ks vs r s _ xs Q Q3 hl st4 hg.2 k⟩
  · rename_i l
    cases st.top with
    | d h =>
      cases h with
      | @lst a0 xs _ hs ha =>
        have hl : l.length = xs.length := dpa_len ha
        have st0 := st.pop
        have st4 : S3 X.K G Z H (l.map T.d ++ ks) (xs ++ vs) r s := ⟨st0.zh, st0.gh, fun a => by rw [cts_append, cts_d]; have := st0.one a; omega, fun a c => st0.ow a (by rw [cts_append, cts_d] at c; omega), rts_app (rts_of_dpa ha) st0.stk, st0.slot, st0.len⟩
        exact ⟨a0, xs, rfl, SqL.of (st.zh _ _ hs), by rw [← hl]; exact hg.1, sa G Z H ks vs r s _ xs Q Q3 (by rw [List.length_map]; exact hl) st4 hg.2 k⟩
  · exact hg.elim
/-! ## in a list of data -/
def rInD_ (K : PySem.W.Frag) : R2 := fun x y H Q => ∃ (d : PyData) (xs : List PyData), Dp K H x d ∧ Dp K H y (.list xs) ∧ PyData.plainAll xs = true ∧ d.plain = true ∧ d.depth ≤ 40 ∧ Q (.bl (xs.any fun y => PyData.eqv y d)) H
theorem op_inD_ {X : Cx} (hu : X.A.units + 64 < cLine) : OpR X (compareOp .In) (rInD_ X.K) := by
  intro pins s σ H x y v u Q I rx ry h
  obtain ⟨d, xs, hd', he, p1, p2, hdp, q⟩ := h
  obtain ⟨as, r1⟩ := Dp.reads I _ x v hd' rx
  obtain ⟨bs, r2⟩ := Dp.reads I _ y u he ry
  exact SeqAt.in_list_data r2 r1 p1 p2 (by omega) ⟨.bl _, H, I, rfl, q⟩
def kInD : C2 := fun r1 x y r Q => asF r1 r x fun d => asF r r y fun e => ∃ xs, e = .list xs ∧ d.canLay0 = true ∧ PyData.canLayAll0 xs = true ∧ d.depth ≤ 40 ∧ Q (.d (.bool (xs.any fun y => PyData.eqv y d))) r
theorem con_inD {X : Cx} : Con2 X (rInD_ X.K) kInD := fun G Z H ks vs r1 r s x y tx ty Q Q3 st px py hc k => by
  obtain ⟨d, hd, hc⟩ := asF_of hc st px
  obtain ⟨e, he, xs, rfl, h1, h2, h3, q⟩ := asF_of hc st py.self
  exact ⟨d, xs, hd h1, he h2, PyData.plainAll_of_canLay0 _ h2, PyData.plain_of_canLay0 _ h1, h3, k Z H (.d (.bool _)) _ r (Gr.refl _ _) st (Dq.bl _) q⟩
theorem t3_inD {X : Cx} {a b : Expr} {ta tb : TE3} {pos : Pos} (hu : X.A.units + 64 < cLine) (ha : R3 X a ta) (hb : R3 X b tb) (hm : behindInMarks .In b = false := by rfl) : T3 X (.Compare a [.In] [b] pos) (xTest (x2 kInD ta tb)) := t3_cmp (op_inD_ hu) con_inD ha hb hm
end L3
set_option pp.maxSteps 600
namespace L3
open PySem PySem.Spec PyProof.Rows L2 TL
local macro_rules | `(tactic| wtm_at "sh") => `(tactic| conv => whnf)
/-! ## k04: words that are numbers -/
theorem canon {l : List Nat} : l ≠ [] → (∀ c ∈ l, 48 ≤ c ∧ c ≤ 57) → (∀ r, l = 48 :: r → r = []) → ∃ n, l = numL n := by
  induction hn : l.length using Nat.strongRecOn generalizing l with
  | _ k ih =>
    intro h0 hd hz
    obtain ⟨m, c, rfl⟩ : ∃ m c, l = m ++ [c] := ⟨l.dropLast, l.getLast h0, (List.dropLast_concat_getLast h0).symm⟩
    have hc := hd c (by simp)
    by_cases hm : m = []
    · subst hm
      refine ⟨c - 48, ?_⟩
      rw [numL_lt (by omega)]
      show [c] = [48 + (c - 48)]
      congr 1; omega
    · obtain ⟨n, e⟩ := ih m.length (by rw [← hn]; simp) rfl hm (fun x hx => hd x (by simp [hx])) (fun r e => by
        have := hz (r ++ [c]) (by rw [e]; rfl)
        simp at this)
      have n0 : n ≠ 0 := fun q => by
        subst q
        have e2 : m = [48] := by rw [e]; decide +kernel
        have := hz [c] (by rw [e2]; rfl)
        simp at this
      refine ⟨10 * n + (c - 48), ?_⟩
      rw [numL_step (by omega), show (10 * n + (c - 48)) / 10 = n by omega, ← e, show (10 * n + (c - 48)) % 10 = c - 48 by omega]
      congr 2; omega
def valL (l : List Nat) : Nat := l.foldl (fun a c => 10 * a + (c - 48)) 0
theorem valL_num (n : Nat) : valL (numL n) = n := by
  induction n using Nat.strongRecOn with
  | _ n ih =>
    rcases Nat.lt_or_ge n 10 with h | h
    · rw [numL_lt h]; show 10 * 0 + (48 + n - 48) = n; omega
    · rw [numL_step h]
      unfold valL at *
      rw [List.foldl_append, ih (n / 10) (by omega)]
      show 10 * (n / 10) + (48 + n % 10 - 48) = n
      omega
def SgT (x : Str) : Prop := ∀ c ∈ tl x, c < 1114112
structure WOk (w : Str) : Prop where
  n : w.length ≤ 640
  s : SgT w
theorem digM {c : Nat} : c ∈ ("0123456789" : Str).cps.toList ↔ 48 ≤ c ∧ c ≤ 57 := by
  have e : ("0123456789" : Str).cps.toList = [48, 49, 50, 51, 52, 53, 54, 55, 56, 57] := by decide +kernel
  rw [e]
  simp only [List.mem_cons, List.not_mem_nil, or_false]
  omega
theorem nest_signs {l : List Nat} (h : l.length < sizeLine) (k : ∀ c ∈ l, c < 1114112) : Nest 3 (.list (l.map fun c => PyData.str ⟨#[c]⟩)) := ⟨by rw [List.length_map]; exact h, fun x hx => by
  obtain ⟨c, hc, rfl⟩ := List.mem_map.mp hx
  exact shp_str fun y hy => by
    have : y = c := by simpa using hy
    rw [this]; exact k c hc⟩
/-- a comprehension with a test -/
theorem lc_filt4 {α : Type} {src : List α} {f out : α → PyData} {P : α → Bool} (hsz : src.length ≤ sizeLine) {r1 : Rho} {js : List Nat} {g : TG3} {tt : TT3} {te : TE3} {Fin : Addr → List T → Rho → Prop}
    (turn : ∀ r0, wp r1 js = r0 → ∀ x ∈ src, ∀ (R : T → Rho → Prop) (S : Rho → Prop), (P x = true → ∀ r4, wp r4 js = r0 → R (.d (out x)) r4) → (P x = false → ∀ r4, wp r4 js = r0 → S r4) → g (.d (f x)) r0 fun r2 => tt r2 fun b r3 => (b = true → te r3 R) ∧ (b = false → S r3))
    (fin : ∀ r0, wp r1 js = r0 → ∀ p, Fin p ((src.filter P).map fun x => T.d (out x)) r0) :
    ∀ p, ∃ W : Nat → List T → Rho → Prop, W 0 [] (wp r1 js) ∧
      (∀ (i : Nat) (x : PyData) (acc : List T) (r : Rho), (src.map f)[i]? = some x → W i acc r → g (.d x) r fun r2 => tt r2 fun b r3 => (b = true → te r3 fun y r4 => acc.length < sizeLine ∧ W (i + 1) (acc ++ [y]) (wp r4 js)) ∧ (b = false → W (i + 1) acc (wp r3 js))) ∧
      ∀ acc r, W (src.map f).length acc r → Fin p acc r := fun p => by
  refine ⟨fun i acc r => r = wp r1 js ∧ acc = ((src.take i).filter P).map fun x => T.d (out x), ⟨rfl, by simp⟩, fun i x acc r hx hW => ?_, fun acc r hW => ?_⟩
  · obtain ⟨rfl, rfl⟩ := hW
    obtain ⟨z, hz, rfl⟩ := get_fun hx
    have hi := (List.getElem?_eq_some_iff.mp hz).1
    refine turn _ rfl z (List.mem_of_getElem? hz) _ _ (fun hp r4 h4 => ⟨?_, ?_, ?_⟩) (fun hp r4 h4 => ⟨?_, ?_⟩)
    · rw [List.length_map]
      have := List.length_filter_le P (src.take i)
      rw [List.length_take] at this
      omega
    · exact h4
    · rw [take_succ hz, List.filter_append, List.map_append]
      simp [hp]
    · exact h4
    · rw [take_succ hz, List.filter_append, List.map_append]
      simp [hp]
  · obtain ⟨rfl, rfl⟩ := hW
    rw [List.length_map, List.take_length]
    exact fin _ rfl p
def N_figures_read_x : List Str := ["word", "sign"]
def body_figures_read_x (cN : Str → Addr) : TS3 := (xSeq (xIfS (xOr (xTest (x2 kEq (xView 0) (xC (.str "")))) (xTest (x2 kNe (xFz (xLc (xStrI (xView 0)) (xGName 1) (xTest (x2 kNotInS (xView 1) (xC (.str "0123456789")))) (xMove 1) [1])) (xFz (xLst xNil))))) (xRaise (cN "NoText")) xNext)
  (xSeq (xIfS (xAnd (xTest (x2 kEq (x2 cIx (xView 0) (xC (.int 0))) (xC (.str "0")))) (xTest (x2 kNe (xView 0) (xC (.str "0"))))) (xRaise (cN "NoText")) xNext)
  (xNox (xRet (xD (x1 cInt (xView 0)))))))
def N_law_number_in : List Str := ["_law_word", "_law_sign_here"]
def body_law_number_in : TS3 := (xSeq (xIfS (xOr (xTest (x2 kEq (xView 0) (xC (.str "")))) (xTest (x2 kNe (xFz (xLc (xStrI (xView 0)) (xGName 1) (xTest (x2 kNotInS (xView 1) (xC (.str "0123456789")))) (xMove 1) [1])) (xFz (xLst xNil))))) (xRet (xD (xC .none))) xNext)
  (xSeq (xIfS (xAnd (xTest (x2 kEq (x2 cIx (xView 0) (xC (.int 0))) (xC (.str "0")))) (xTest (x2 kNe (xView 0) (xC (.str "0"))))) (xRet (xD (xC .none))) xNext)
  (xRet (xD (x1 cInt (xView 0))))))
def numT (bad good : TS3) : TS3 := (xSeq (xIfS (xOr (xTest (x2 kEq (xView 0) (xC (.str "")))) (xTest (x2 kNe (xFz (xLc (xStrI (xView 0)) (xGName 1) (xTest (x2 kNotInS (xView 1) (xC (.str "0123456789")))) (xMove 1) [1])) (xFz (xLst xNil))))) bad xNext)
  (xSeq (xIfS (xAnd (xTest (x2 kEq (x2 cIx (xView 0) (xC (.int 0))) (xC (.str "0")))) (xTest (x2 kNe (xView 0) (xC (.str "0"))))) bad xNext)
  good))
theorem v_numT {D : Ends3} {bad good : TS3} {w : Str} {s1 : Option T} (hw : WOk w) (hb : (∀ n, tl w ≠ numL n) → ∀ nx s, bad { D with nx := nx } [some (.d (.str w)), s]) (hg : ∀ n, tl w = numL n → ∀ s, good D [some (.d (.str w)), s]) :
    numT bad good D [some (.d (.str w)), s1] := by
  have hbig : 1000 < sizeLine := by decide
  have hl : (tl w).length ≤ 640 := by rw [← len_tl]; exact hw.n
  have sw : SeqAt.shaped (.str w) = true := shp_str hw.s
  refine ⟨sw, by decide +kernel, fun h => ⟨fun _ => hb (fun n e => ?_) _ _, nofun⟩, fun h => ?_⟩
  · have h2 : PyData.eqv (.str w) (.str "") = true := h
    by_cases q : w = ""
    · rw [q] at e; exact numL_ne n e.symm
    · rw [eqv_strF q] at h2; cases h2
  have w0 : tl w ≠ [] := fun e => by
    have h2 : PyData.eqv (.str w) (.str "") = false := h
    rw [show w = "" from ext_tl e, eqv_strT] at h2; cases h2
  refine lc_filt4 (src := tl w) (f := fun c => .str ⟨#[c]⟩) (P := fun c => !decide (c ∈ ("0123456789" : Str).cps.toList)) (out := fun c => .str ⟨#[c]⟩) (by omega) (fun r0 h0 c hc R S kR kS => ?_) fun r0 h0 p1 => ?_
  · simp only [wp, puts, List.set_cons_succ, List.set_cons_zero] at h0; subst h0
    exact ⟨c, rfl, fun h1 => kR h1 _ rfl, fun h1 => kS h1 _ rfl⟩
  simp only [wp, puts, List.set_cons_succ, List.set_cons_zero] at h0; subst h0
  refine ⟨nvs_map _ _, sz 0, fun p2 => ⟨rfl, ?_⟩⟩
  have ef : fz (T.own p1 (((tl w).filter fun c => !decide (c ∈ ("0123456789" : Str).cps.toList)).map fun c => T.d (.str ⟨#[c]⟩))) = .list (((tl w).filter fun c => !decide (c ∈ ("0123456789" : Str).cps.toList)).map fun c => PyData.str ⟨#[c]⟩) := by
    show PyData.list (fzs _) = _
    rw [fzs_map]
  rw [ef]
  have fl := List.length_filter_le (fun c => !decide (c ∈ ("0123456789" : Str).cps.toList)) (tl w)
  refine ⟨nest_shaped (nest_signs (by omega) fun c hc => hw.s c (List.mem_filter.mp hc).1) (by decide), shp_nilL, fun h2 => hb (fun n e => ?_) _ _, fun h2 => ?_⟩
  · have h3 : (!PyData.eqv (.list (((tl w).filter fun c => !decide (c ∈ ("0123456789" : Str).cps.toList)).map fun c => PyData.str ⟨#[c]⟩)) (.list [])) = true := h2
    have e0 : (tl w).filter (fun c => !decide (c ∈ ("0123456789" : Str).cps.toList)) = [] := by
      rw [List.filter_eq_nil_iff]
      intro c hc
      rw [e] at hc
      rw [decide_eq_true (digM.mpr (numL_sign hc))]; decide
    rw [e0] at h3
    have h4 : (!PyData.eqv (.list []) (.list [])) = true := h3
    rw [eqv_nn] at h4; cases h4
  have dig : ∀ c ∈ tl w, 48 ≤ c ∧ c ≤ 57 := fun c hc => by
    by_cases q : 48 ≤ c ∧ c ≤ 57
    · exact q
    · exfalso
      have hm : c ∈ (tl w).filter (fun c => !decide (c ∈ ("0123456789" : Str).cps.toList)) := List.mem_filter.mpr ⟨hc, by rw [decide_eq_false fun z => q (digM.mp z)]; rfl⟩
      have h3 : (!PyData.eqv (.list (((tl w).filter fun c => !decide (c ∈ ("0123456789" : Str).cps.toList)).map fun c => PyData.str ⟨#[c]⟩)) (.list [])) = false := h2
      rw [eqv_nilL (fun z => by
        have := List.map_eq_nil_iff.mp z
        rw [this] at hm; cases hm)] at h3
      cases h3
  obtain ⟨c, r, ec⟩ : ∃ c r, tl w = c :: r := by
    cases e : tl w with
    | nil => exact absurd e w0
    | cons c r => exact ⟨c, r, rfl⟩
  have g0 : getI w.cps.toList 0 = some c := by
    show (tl w)[0]? = some c
    rw [ec]; rfl
  have sc : SeqAt.shaped (.str ⟨#[c]⟩) = true := shp_str fun x hx => by
    have : x = c := by simpa using hx
    rw [this]; exact hw.s c (by rw [ec]; simp)
  have e1 : (⟨#[c]⟩ : Str) = "0" ↔ c = 48 := ⟨fun e => by
    have h4 : tl (⟨#[c]⟩ : Str) = tl "0" := by rw [e]
    have h5 : [c] = [48] := h4
    exact (List.cons.inj h5).1, fun e => by subst e; decide +kernel⟩
  refine ⟨by have := hw.n; omega, c, g0, sc, by decide +kernel, fun h3 => ⟨sw, by decide +kernel, fun h4 => hb (fun n e => ?_) _ _, fun h4 => ?_⟩, fun h3 => ⟨nofun, fun _ => ?_⟩⟩
  · -- a nought ahead
    have h5 : PyData.eqv (.str ⟨#[c]⟩) (.str "0") = true := h3
    have c48 : c = 48 := Classical.byContradiction fun q => by rw [eqv_strF fun z => q (e1.mp z)] at h5; cases h5
    have n0 := numL_head (n := n) (r := r) (by rw [← e, ec, c48])
    have w48 : w = "0" := ext_tl (by rw [e, n0]; decide +kernel)
    have h6 : (!PyData.eqv (.str w) (.str "0")) = true := h4
    rw [w48, eqv_strT] at h6; cases h6
  · have h6 : (!PyData.eqv (.str w) (.str "0")) = false := h4
    have w48 : w = "0" := Classical.byContradiction fun q => by rw [eqv_strF q] at h6; cases h6
    exact hg 0 (by rw [w48]; decide +kernel) _
  · have h5 : PyData.eqv (.str ⟨#[c]⟩) (.str "0") = false := h3
    have c48 : c ≠ 48 := fun q => by rw [e1.mpr q, eqv_strT] at h5; cases h5
    obtain ⟨n, e⟩ := canon w0 dig fun r' e => by
      rw [ec] at e
      exact absurd (List.cons.inj e).1 c48
    exact hg n e _
end L3
set_option pp.maxSteps 600
namespace L3
open PySem PySem.Spec PyProof.Rows L2 TL
local macro_rules | `(tactic| wtm_at "sh") => `(tactic| conv => whnf)
/-! ## k04: the words of a text -/
theorem spl_one (c x : Nat) (acc r : List Nat) : spl [c] 0 acc (x :: r) = if x = c then acc :: spl [c] 0 [] r else spl [c] 0 (acc ++ [x]) r := by
  have e : pre [c] (x :: r) = decide (x = c) := by
    show ([x] == [c]) = _
    by_cases h : x = c
    · subst h; simp
    · simp [h]
  by_cases h : x = c
  · rw [if_pos h, spl_hit (by rw [e]; exact decide_eq_true h)]
    rfl
  · rw [if_neg h, spl_miss (by rw [e]; exact decide_eq_false h)]
theorem spl_part_in {c : Nat} : ∀ (l acc p : List Nat), p ∈ spl [c] 0 acc l → p.length ≤ acc.length + l.length ∧ ∀ x ∈ p, x ∈ acc ∨ x ∈ l
  | [], acc, p, h => by
    rw [spl_nil] at h
    rw [List.mem_singleton.mp h]
    exact ⟨by simp, fun x hx => .inl hx⟩
  | a :: l, acc, p, h => by
    rw [spl_one] at h
    split at h
    · rcases List.mem_cons.mp h with h | h
      · subst h
        exact ⟨by simp, fun x hx => .inl hx⟩
      · obtain ⟨h1, h2⟩ := spl_part_in l [] p h
        simp only [List.length_nil, List.length_cons] at *
        exact ⟨by omega, fun x hx => .inr (by
          rcases h2 x hx with h3 | h3
          · cases h3
          · exact List.mem_cons_of_mem _ h3)⟩
    · obtain ⟨h1, h2⟩ := spl_part_in l (acc ++ [a]) p h
      simp only [List.length_append, List.length_cons, List.length_nil] at *
      refine ⟨by omega, fun x hx => ?_⟩
      rcases h2 x hx with h3 | h3
      · rcases List.mem_append.mp h3 with h4 | h4
        · exact .inl h4
        · rw [List.mem_singleton.mp h4]; exact .inr (by simp)
      · exact .inr (List.mem_cons_of_mem _ h3)
theorem spl_count {c : Nat} : ∀ (l acc : List Nat), ((spl [c] 0 acc l).length : Int) = cnt c l + 1
  | [], acc => by rw [spl_nil, cnt_nil]; rfl
  | a :: l, acc => by
    rw [spl_one, cnt_cons]
    split
    · rw [List.length_cons]
      have := spl_count (c := c) l []
      omega
    · have := spl_count (c := c) l (acc ++ [a])
      omega
theorem cnt_le {c : Nat} : ∀ l : List Nat, 0 ≤ cnt c l ∧ cnt c l ≤ l.length
  | [] => by rw [cnt_nil]; simp
  | a :: l => by
    rw [cnt_cons, List.length_cons]
    have := cnt_le (c := c) l
    split <;> omega
theorem wordsL (w : Str) : (Txt.split w " ").map tl = spl [32] 0 [] (tl w) := split_spl w " " (by decide) (kind_ok (by decide +kernel))
theorem partsL (w : Str) : (Txt.split w "/").map tl = spl [47] 0 [] (tl w) := split_spl w "/" (by decide) (kind_ok (by decide +kernel))
theorem parts_ok {w x y : Str} {c : Nat} (e : (Txt.split w y).map tl = spl [c] 0 [] (tl w)) (hw : WOk w) (h : x ∈ Txt.split w y) : WOk x := by
  have h1 : tl x ∈ spl [c] 0 [] (tl w) := by rw [← e]; exact List.mem_map.mpr ⟨x, h, rfl⟩
  obtain ⟨a, b⟩ := spl_part_in _ _ _ h1
  have := hw.n
  rw [len_tl] at this
  refine ⟨by rw [len_tl]; simp only [List.length_nil] at a; omega, fun z hz => ?_⟩
  rcases b z hz with h | h
  · cases h
  · exact hw.s z h
theorem parts_len {w y : Str} {c : Nat} (e : (Txt.split w y).map tl = spl [c] 0 [] (tl w)) : ((Txt.split w y).length : Int) = cnt c (tl w) + 1 := by
  rw [← spl_count (tl w) [], ← e, List.length_map]
theorem parts_few {w y : Str} {c : Nat} (e : (Txt.split w y).map tl = spl [c] 0 [] (tl w)) (hw : WOk w) : (Txt.split w y).length ≤ 641 ∧ Txt.split w y ≠ [] := by
  have h1 := parts_len e
  have h2 := cnt_le (c := c) (tl w)
  have := hw.n
  rw [len_tl] at this
  refine ⟨by omega, fun h => ?_⟩
  rw [h, List.length_nil] at h1
  omega
theorem count_is1 (w : Str) : Txt.count w "/" = cnt 47 (tl w) := count_cnt w 47
theorem cut_ok {w : Str} {lo hi : Option Int} (hw : WOk w) : WOk (cutS w lo hi) := by
  have e : tl (cutS w lo hi) = cutL (tl w) lo hi := tl_cut ..
  have h1 : (cutL (tl w) lo hi).length ≤ (tl w).length ∧ ∀ c ∈ cutL (tl w) lo hi, c ∈ tl w := by
    unfold cutL
    refine ⟨by rw [List.length_take, List.length_drop]; omega, fun c hc => List.mem_of_mem_drop (List.mem_of_mem_take hc)⟩
  have := hw.n
  rw [len_tl] at this
  exact ⟨by rw [len_tl, e]; omega, fun c hc => hw.s c (h1.2 c (by rw [← e]; exact hc))⟩
open Classical in
noncomputable def numO (w : Str) : Option Nat := if ∃ n, tl w = numL n then some (valL (tl w)) else none
theorem numO_some {w : Str} {n : Nat} (h : tl w = numL n) : numO w = some n := by
  unfold numO
  rw [if_pos ⟨n, h⟩, h, valL_num]
theorem numO_none {w : Str} (h : ∀ n, tl w ≠ numL n) : numO w = none := by
  unfold numO
  rw [if_neg fun ⟨n, e⟩ => h n e]
theorem numO_of {w : Str} {n : Nat} (h : numO w = some n) : tl w = numL n := by
  unfold numO at h
  split at h
  · rename_i h1
    obtain ⟨m, e⟩ := h1
    rw [e, valL_num] at h
    cases h
    exact e
  · cases h
/-- a number, signed -/
noncomputable def sgO (w : Str) : Option Int := if tl w = [45, 48] then none else match tl w with
  | 45 :: r => Option.map (fun m : Nat => -(m : Int)) (numO ⟨r.toArray⟩)
  | _ => Option.map (fun m : Nat => (m : Int)) (numO w)
theorem sgO_minus {w : Str} {r : List Nat} (h : tl w = 45 :: r) (h2 : r ≠ [48]) : sgO w = Option.map (fun m : Nat => -(m : Int)) (numO ⟨r.toArray⟩) := by
  unfold sgO
  rw [if_neg (by rw [h]; intro e; exact h2 (List.cons.inj e).2), h]; rfl
theorem sgO_plus {w : Str} (h : ∀ r, tl w ≠ 45 :: r) : sgO w = Option.map (fun m : Nat => (m : Int)) (numO w) := by
  unfold sgO
  rw [if_neg (h _)]
  split
  · rename_i r e
    exact absurd e (h r)
  · rfl
theorem sgO_nought {w : Str} (h : tl w = [45, 48]) : sgO w = none := by
  unfold sgO; rw [if_pos h]
noncomputable def frO (w : Str) : Option (Int × Int) := match Txt.split w "/" with
  | [x, y] => match sgO x, numO y with
    | some a, some b => some (a, (b : Int))
    | _, _ => none
  | _ => none
theorem frO_two {w x y : Str} (h : Txt.split w "/" = [x, y]) : frO w = match sgO x, numO y with
    | some a, some b => some (a, (b : Int))
    | _, _ => none := by unfold frO; rw [h]
theorem frO_not {w : Str} (h : (Txt.split w "/").length ≠ 2) : frO w = none := by
  unfold frO
  split
  · rename_i x y e
    rw [e] at h; exact absurd rfl h
  · rfl
def sp_figures_read_x (cN : Str → Addr) : Sp3 := fun ts Q E => ∃ w, ts = [.d (.str w)] ∧ WOk w ∧ (∀ n, numO w = some n → Q (.d (.int (n : Int))) ts) ∧ (numO w = none → E (cN "NoText") ts)
theorem int_of {w : Str} {n : Nat} (hw : WOk w) (h : tl w = numL n) : PySem.intText? w = some (n : Int) := by
  have e : w = Str.ofString (toString ((n : Nat) : Int)) := ext_tl (by rw [h, tl_num])
  have := hw.n
  rw [len_tl, h] at this
  rw [e]
  exact int_num (by omega)
theorem v_figures_read_x (cN : Str → Addr) (ts Q E) (h : sp_figures_read_x cN ts Q E) : body_figures_read_x cN { nx := fun r => finOk ts r ∧ Q (.d .none) (finF ts r), rt := fun x r => finOk ts r ∧ Q x (finF ts r), ex := fun C r => finOk ts r ∧ E C (finF ts r) } (start3 N_figures_read_x ts) := by
  obtain ⟨w, rfl, hw, hq, he⟩ := h
  exact v_numT hw (fun hb nx s => ⟨⟨⟩, he (numO_none hb)⟩) fun n e s => ⟨n, int_of hw e, hw.n, ⟨⟩, hq n (numO_some e)⟩
noncomputable def optD : Option Nat → PyData
  | some n => .int (n : Int)
  | none => .none
noncomputable def sp_law_number_in : Sp3 := fun ts Q _ => ∃ w, ts = [.d (.str w)] ∧ WOk w ∧ Q (.d (optD (numO w))) ts
theorem v_law_number_in (ts Q E) (h : sp_law_number_in ts Q E) : body_law_number_in { nx := fun r => finOk ts r ∧ Q (.d .none) (finF ts r), rt := fun x r => finOk ts r ∧ Q x (finF ts r) } (start3 N_law_number_in ts) := by
  obtain ⟨w, rfl, hw, hq⟩ := h
  refine v_numT hw (fun hb nx s => ?_) fun n e s => ?_
  · rw [numO_none hb] at hq
    exact ⟨⟨⟩, hq⟩
  · rw [numO_some e] at hq
    exact ⟨n, int_of hw e, hw.n, ⟨⟩, hq⟩
end L3
set_option pp.maxSteps 600
namespace L3
open PySem PySem.Spec PyProof.Rows L2 TL
local macro_rules | `(tactic| wtm_at "sh") => `(tactic| conv => whnf)
/-! ## k04: the fractions of a text -/
theorem eqv_str (a b : Str) : PyData.eqv (.str a) (.str b) = decide (a = b) := by
  by_cases h : a = b
  · subst h; rw [eqv_strT]; simp
  · rw [eqv_strF h]; simp [h]
theorem minus_iff {x : Str} : cutS x none (some 1) = "-" ↔ ∃ r, tl x = 45 :: r := by
  cases e : tl x with
  | nil =>
    refine ⟨fun h => ?_, fun ⟨r, h⟩ => by cases h⟩
    have h2 : tl (cutS x none (some 1)) = tl "-" := by rw [h]
    rw [tl_cut, e] at h2
    have h3 : tl "-" = [45] := by decide +kernel
    rw [h3] at h2
    unfold cutL at h2
    simp at h2
  | cons c r =>
    have h5 : tl (cutS x none (some 1)) = [c] := by rw [tl_cut]; exact cutL_head e
    constructor
    · intro h
      rw [h] at h5
      have h6 : [45] = [c] := h5
      have := (List.cons.inj h6).1
      exact ⟨r, by rw [← this]⟩
    · intro ⟨r', h⟩
      have := (List.cons.inj h).1
      subst this
      exact ext_tl (by rw [h5]; decide +kernel)
theorem cut_tail {x : Str} {r : List Nat} (e : tl x = 45 :: r) : cutS x (some 1) none = ⟨r.toArray⟩ := ext_tl (by
  rw [tl_cut, e, cut_one (by simp)]
  rfl)
theorem nought_iff {x : Str} : x = "-0" ↔ tl x = [45, 48] := ⟨fun h => by rw [h]; decide +kernel, fun h => ext_tl (by rw [h]; decide +kernel)⟩
theorem two_words {w : Str} (h2 : (Txt.split w "/").length = 2) : ∃ x y, Txt.split w "/" = [x, y] := by
  cases e : Txt.split w "/" with
  | nil => rw [e] at h2; cases h2
  | cons x r => cases r with
    | nil => rw [e] at h2; cases h2
    | cons y r => cases r with
      | nil => exact ⟨x, y, rfl⟩
      | cons z r => rw [e] at h2; simp at h2
def N_fraction_read_x : List Str := ["word", "parts", "sign"]
def body_fraction_read_x (cN : Str → Addr) : TS3 := (xSeq (xAsg (xSplit (xView 0) (xC (.str "/"))) (xGName 1))
  (xSeq (xIfS (xOr (xTest (x2 kNeI (x1 cLen (xView 1)) (xC (.int 2)))) (xTest (x2 kEq (x2 cIx (xView 1) (xC (.int 0))) (xC (.str "-0"))))) (xRaise (cN "NoText")) xNext)
  (xSeq (xAsg (xD (xC (.int 1))) (xGName 2))
  (xSeq (xIfS (xTest (x2 kEq (xFz (xSl (x2 cIx (xView 1) (xC (.int 0))) xNo (xSome (xC (.int 1))))) (xC (.str "-")))) (xNox (xSeq (xAsg (xD (xNeg (xC (.int 1)))) (xGName 2))
  (xAsg (xSl (x2 cIx (xView 1) (xC (.int 0))) (xSome (xC (.int 1))) xNo) (xGSub 1 (xC (.int 0)))))) xNext)
  (xRetX (xTup2X (xMulX (xView 2) (xCallX (sp_figures_read_x cN) (xArg (x2 cIx (xView 1) (xC (.int 0))) xANil))) (xCallX (sp_figures_read_x cN) (xArg (x2 cIx (xView 1) (xC (.int 1))) xANil))))))))
def sp_fraction_read_x (cN : Str → Addr) : Sp3 := fun ts Q E => ∃ w, ts = [.d (.str w)] ∧ WOk w ∧ (∀ p, frO w = some p → Q (.d (prI p)) ts) ∧ (frO w = none → E (cN "NoText") ts)
theorem v_fraction_read_x (cN : Str → Addr) (ts Q E) (h : sp_fraction_read_x cN ts Q E) : body_fraction_read_x cN { nx := fun r => finOk ts r ∧ Q (.d .none) (finF ts r), rt := fun x r => finOk ts r ∧ Q x (finF ts r), ex := fun C r => finOk ts r ∧ E C (finF ts r) } (start3 N_fraction_read_x ts) := by
  obtain ⟨w, rfl, hw, hq, he⟩ := h
  have hb : 1000 < sizeLine := by decide
  have hn := hw.n
  refine ⟨by decide +kernel, by omega, fun pl => ?_⟩
  by_cases h2 : (Txt.split w "/").length = 2
  · obtain ⟨x, y, e⟩ := two_words h2
    have hx : WOk x := parts_ok (partsL w) hw (by rw [e]; simp)
    have hy : WOk y := parts_ok (partsL w) hw (by rw [e]; simp)
    have ef := frO_two e
    have hxn := hx.n
    have hyn := hy.n
    have sx : SeqAt.shaped (.str x) = true := shp_str hx.s
    rw [e]
    refine ⟨nofun, fun _ => ⟨rfl, _, rfl, sx, by decide +kernel, fun hc => ?_, fun hc => ?_⟩⟩
    · have h3 : PyData.eqv (.str x) (.str "-0") = true := hc
      rw [eqv_str] at h3
      rw [sgO_nought (nought_iff.mp (of_decide_eq_true h3))] at ef
      exact ⟨⟨⟩, he ef⟩
    · have h3 : PyData.eqv (.str x) (.str "-0") = false := hc
      rw [eqv_str] at h3
      have h4 : tl x ≠ [45, 48] := fun h => of_decide_eq_false h3 (nought_iff.mpr h)
      have sc : SeqAt.shaped (.str (cutS x none (some 1))) = true := shp_str (cut_ok hx).s
      refine ⟨rfl, _, rfl, by omega, sc, by decide +kernel, fun hc => ?_, fun hc => ?_⟩
      · have h5 : PyData.eqv (.str (cutS x none (some 1))) (.str "-") = true := hc
        rw [eqv_str] at h5
        obtain ⟨r, er⟩ := minus_iff.mp (of_decide_eq_true h5)
        have es := sgO_minus er (fun h => h4 (by rw [er, h]))
        have hx1 : WOk (cutS x (some 1) none) := cut_ok hx
        refine ⟨rfl, _, rfl, by omega, _, setI_in _ (by decide) (by show (0 : Int) < 2; decide), rfl, _, rfl, nd0, _, rfl, hx1, fun n en => ?_, fun en => ?_⟩
        · rw [cut_tail er] at en
          rw [es, en] at ef
          refine ⟨_, rfl, mulOkL (by decide) (by decide), _, rfl, rfl, _, rfl, nd0, _, rfl, hy, fun m em => ?_, fun em => ?_⟩
          · rw [em] at ef
            refine ⟨_, rfl, ⟨⟩, ?_⟩
            have h9 := hq _ ef
            rw [Int.neg_mul, Int.one_mul]
            exact h9
          · rw [em] at ef
            exact ⟨⟨⟩, he ef⟩
        · rw [cut_tail er] at en
          rw [es, en] at ef
          exact ⟨⟨⟩, he ef⟩
      · have h5 : PyData.eqv (.str (cutS x none (some 1))) (.str "-") = false := hc
        rw [eqv_str] at h5
        have es := sgO_plus (w := x) (fun r er => of_decide_eq_false h5 (minus_iff.mpr ⟨r, er⟩))
        refine ⟨rfl, _, rfl, nd0, _, rfl, hx, fun n en => ?_, fun en => ?_⟩
        · rw [es, en] at ef
          refine ⟨_, rfl, mulOkL (by decide) (by decide), _, rfl, rfl, _, rfl, nd0, _, rfl, hy, fun m em => ?_, fun em => ?_⟩
          · rw [em] at ef
            refine ⟨_, rfl, ⟨⟩, ?_⟩
            have h9 := hq _ ef
            rw [Int.one_mul]
            exact h9
          · rw [em] at ef
            exact ⟨⟨⟩, he ef⟩
        · rw [es, en] at ef
          exact ⟨⟨⟩, he ef⟩
  · refine ⟨fun _ => ⟨fun _ => ⟨⟨⟩, he (frO_not h2)⟩, nofun⟩, fun hc => ?_⟩
    have h3 : (!decide ((((Txt.split w "/").map fun z => T.d (.str z)).length : Int) = 2)) = false := hc
    rw [List.length_map] at h3
    simp at h3
    omega
def N_law_fraction_in : List Str := ["_law_word", "_law_first", "_law_second", "_law_above", "_law_below_here"]
def body_law_fraction_in : TS3 := (xSeq (xIfS (xTest (x2 kNeI (xCountS (xView 0) (xC (.str "/"))) (xC (.int 1)))) (xRet (xD (xC .none))) xNext)
  (xSeq (xAsg (xSplit (xView 0) (xC (.str "/"))) (xGTupL 2 (xGCons (xGName 1) (xGCons (xGName 2) xGNil))))
  (xSeq (xAsg (xCall sp_law_number_in xNoE (xArg (xView 1) xANil)) (xGName 3))
  (xSeq (xIfS (xTest (x2 kEq (xFz (xSl (xView 1) xNo (xSome (xC (.int 1))))) (xC (.str "-")))) (xSeq (xAsg (xCall sp_law_number_in xNoE (xArg (xFz (xSl (xView 1) (xSome (xC (.int 1))) xNo)) xANil)) (xGName 3))
  (xIfS (xTest (x2 kNotN (xView 3) (xC .none))) (xAsg (xD (x2 cIx (xFz (xLst (xCons (xD (xC .none)) (xCons (xD (x2 kSub (xC (.int 0)) (xView 3))) xNil)))) (x1 cInt (x2 kGt (xView 3) (xC (.int 0)))))) (xGName 3)) xNext)) xNext)
  (xSeq (xAsg (xCall sp_law_number_in xNoE (xArg (xView 2) xANil)) (xGName 4))
  (xSeq (xIfS (xOr (xTest (x2 kIsN (xView 3) (xC .none))) (xTest (x2 kIsN (xView 4) (xC .none)))) (xRet (xD (xC .none))) xNext)
  (xRet (xTup (xCons (xMove 3) (xCons (xMove 4) xNil))))))))))
noncomputable def optP : Option (Int × Int) → PyData
  | some p => prI p
  | none => .none
noncomputable def sp_law_fraction_in : Sp3 := fun ts Q _ => ∃ w, ts = [.d (.str w)] ∧ WOk w ∧ Q (.d (optP (frO w))) ts
theorem v_law_fraction_in (ts Q E) (h : sp_law_fraction_in ts Q E) : body_law_fraction_in { nx := fun r => finOk ts r ∧ Q (.d .none) (finF ts r), rt := fun x r => finOk ts r ∧ Q x (finF ts r) } (start3 N_law_fraction_in ts) := by
  obtain ⟨w, rfl, hw, hq⟩ := h
  have hb : 1000 < sizeLine := by decide
  have hn := hw.n
  have hcnt := parts_len (partsL w)
  by_cases h2 : (Txt.split w "/").length = 2
  · obtain ⟨x, y, e⟩ := two_words h2
    have hx : WOk x := parts_ok (partsL w) hw (by rw [e]; simp)
    have hy : WOk y := parts_ok (partsL w) hw (by rw [e]; simp)
    have ef := frO_two e
    have hxn := hx.n
    have sc : SeqAt.shaped (.str (cutS x none (some 1))) = true := shp_str (cut_ok hx).s
    refine ⟨fun hc => ?_, fun _ => ⟨by decide +kernel, by omega, fun pl => ?_⟩⟩
    · have h3 : (!decide (Txt.count w "/" = 1)) = true := hc
      rw [count_is1] at h3
      simp at h3
      omega
    rw [e]
    refine ⟨rfl, nd0, _, rfl, hx, by omega, sc, by decide +kernel, fun hc => ?_, fun hc => ?_⟩
    · have h5 : PyData.eqv (.str (cutS x none (some 1))) (.str "-") = true := hc
      rw [eqv_str] at h5
      obtain ⟨r, er⟩ := minus_iff.mp (of_decide_eq_true h5)
      have hx1 : WOk (cutS x (some 1) none) := cut_ok hx
      refine ⟨by omega, nd0, _, rfl, hx1, ?_⟩
      rw [cut_tail er]
      cases ea : numO ⟨r.toArray⟩ with
      | none =>
        have ef2 : frO w = none := by
          rw [ef, sgO_minus er (fun h => by
            subst h
            have : numO ⟨#[48]⟩ = some 0 := numO_some (by decide +kernel)
            rw [this] at ea; cases ea), ea]
          rfl
        rw [ef2] at hq
        exact ⟨⟨⟩, nofun, fun _ => ⟨nd0, _, rfl, hy, ⟨⟩, fun _ => ⟨fun _ => ⟨⟨⟩, hq⟩, nofun⟩, nofun⟩⟩
      | some n =>
        refine ⟨⟨⟩, fun _ => ⟨sz 2, fun p1 => ⟨rfl, ?_⟩⟩, nofun⟩
        by_cases n0 : n = 0
        · subst n0
          have ef2 : frO w = none := by
            rw [ef, sgO_nought (by rw [er, show r = [48] from by
              have := numO_of ea
              rw [show tl (⟨r.toArray⟩ : Str) = r from rfl] at this
              rw [this]; decide +kernel])]
          rw [ef2] at hq
          exact ⟨_, rfl, nd0, _, rfl, hy, ⟨⟩, fun _ => ⟨fun _ => ⟨⟨⟩, hq⟩, nofun⟩, nofun⟩
        · have es := sgO_minus er (fun h => by
            subst h
            have : numO ⟨#[48]⟩ = some 0 := numO_some (by decide +kernel)
            rw [this] at ea; cases ea; exact n0 rfl)
          rw [es, ea] at ef
          have gt : decide ((n : Int) > 0) = true := decide_eq_true (by omega)
          have e0 : (0 : Int) - (n : Int) = -(n : Int) := by omega
          refine ⟨.int (0 - (n : Int)), ?_, nd0, _, rfl, hy, ?_⟩
          · show getI [PyData.none, PyData.int (0 - (n : Int))] (if decide ((n : Int) > 0) = true then 1 else 0) = _
            rw [gt]; rfl
          rw [e0]
          cases eb : numO y with
          | none =>
            rw [eb] at ef
            have ef2 : frO w = none := ef
            rw [ef2] at hq
            exact ⟨⟨⟩, nofun, fun _ => ⟨⟨⟩, fun _ => ⟨⟨⟩, hq⟩, nofun⟩⟩
          | some m =>
            rw [eb] at ef
            have ef2 : frO w = some (-(n : Int), (m : Int)) := ef
            rw [ef2] at hq
            exact ⟨⟨⟩, nofun, fun _ => ⟨⟨⟩, nofun, fun _ => ⟨sz 2, ⟨⟩, hq⟩⟩⟩
    · have h5 : PyData.eqv (.str (cutS x none (some 1))) (.str "-") = false := hc
      rw [eqv_str] at h5
      have es := sgO_plus (w := x) (fun r er => of_decide_eq_false h5 (minus_iff.mpr ⟨r, er⟩))
      rw [es] at ef
      refine ⟨nd0, _, rfl, hy, ?_⟩
      cases ea : numO x with
      | none =>
        rw [ea] at ef
        have ef2 : frO w = none := ef
        rw [ef2] at hq
        exact ⟨⟨⟩, fun _ => ⟨fun _ => ⟨⟨⟩, hq⟩, nofun⟩, nofun⟩
      | some n =>
        rw [ea] at ef
        cases eb : numO y with
        | none =>
          rw [eb] at ef
          have ef2 : frO w = none := ef
          rw [ef2] at hq
          exact ⟨⟨⟩, nofun, fun _ => ⟨⟨⟩, fun _ => ⟨⟨⟩, hq⟩, nofun⟩⟩
        | some m =>
          rw [eb] at ef
          have ef2 : frO w = some ((n : Int), (m : Int)) := ef
          rw [ef2] at hq
          exact ⟨⟨⟩, nofun, fun _ => ⟨⟨⟩, nofun, fun _ => ⟨sz 2, ⟨⟩, hq⟩⟩⟩
  · have ef := frO_not h2
    rw [ef] at hq
    refine ⟨fun _ => ⟨⟨⟩, hq⟩, fun hc => ?_⟩
    have h3 : (!decide (Txt.count w "/" = 1)) = false := hc
    rw [count_is1] at h3
    simp at h3
    omega
end L3
set_option pp.maxSteps 600
namespace L3
open PySem PySem.Spec PyProof.Rows L2 TL
local macro_rules | `(tactic| wtm_at "sh") => `(tactic| conv => whnf)
/-! ## k04: askings in a text -/
theorem num_lt (n : Nat) : n < 10 ^ (numL n).length := by
  induction n using Nat.strongRecOn with
  | _ n ih =>
    rcases Nat.lt_or_ge n 10 with h | h
    · rw [numL_lt h]; exact h
    · have := ih (n / 10) (by omega)
      rw [numL_step h, List.length_append, Nat.pow_add]
      show n < 10 ^ (numL (n / 10)).length * 10
      omega
theorem numO_sz {w : Str} (hw : WOk w) {n : Nat} (h : numO w = some n) : Sz 8000 (n : Int) := by
  have e := numO_of h
  have h1 := num_lt n
  have h2 := hw.n
  rw [len_tl, e] at h2
  have h3 : 10 ^ (numL n).length ≤ 10 ^ 640 := Nat.pow_le_pow_right (by decide) h2
  have h4 : 10 ^ 640 ≤ 2 ^ 8000 := by decide +kernel
  show ((n : Nat) : Int).natAbs < 2 ^ 8000
  rw [Int.natAbs_natCast]
  exact Nat.lt_of_lt_of_le h1 (Nat.le_trans h3 h4)
theorem frO_sz {w : Str} (hw : WOk w) {p : Int × Int} (h : frO w = some p) : 0 ≤ p.2 ∧ Sz 8000 p.2 := by
  by_cases h2 : (Txt.split w "/").length = 2
  · obtain ⟨x, y, e⟩ := two_words h2
    have hy : WOk y := parts_ok (partsL w) hw (by rw [e]; simp)
    rw [frO_two e] at h
    cases ea : sgO x with
    | none => rw [ea] at h; cases h
    | some a =>
      cases eb : numO y with
      | none => rw [ea, eb] at h; cases h
      | some b =>
        rw [ea, eb] at h
        cases h
        exact ⟨Int.natCast_nonneg b, numO_sz hy eb⟩
  · rw [frO_not h2] at h; cases h
abbrev wsO (w : Str) : List Str := Txt.split w " "
noncomputable def fqO (w : Str) : Int × Int := (frO w).getD (0, 0)
theorem fqO_some {w : Str} (h : frO w ≠ none) : frO w = some (fqO w) := by
  unfold fqO
  cases e : frO w with
  | none => exact absurd e h
  | some p => rfl
noncomputable def lsO (w : Str) : List (Int × Int) := (wsO w).map fqO
open Classical in
noncomputable def dueR (w : Str) : Except Str (List (Int × Int)) := if w = "" then .error "NoAsking" else if ∃ x ∈ wsO w, frO x = none then .error "NoText" else if ∃ p ∈ lsO w, p.2 < 1 then .error "NoAsking" else .ok ((lsO w).map leastP)
theorem dueR_empty {w : Str} (h : w = "") : dueR w = .error "NoAsking" := by unfold dueR; rw [if_pos h]
theorem dueR_text {w x : Str} (h0 : w ≠ "") (h : x ∈ wsO w) (h1 : frO x = none) : dueR w = .error "NoText" := by
  unfold dueR; rw [if_neg h0, if_pos ⟨x, h, h1⟩]
theorem dueR_bad {w : Str} {p : Int × Int} (h0 : w ≠ "") (h : ∀ x ∈ wsO w, frO x ≠ none) (h1 : p ∈ lsO w) (h2 : p.2 < 1) : dueR w = .error "NoAsking" := by
  unfold dueR; rw [if_neg h0, if_neg (fun ⟨x, h3, h4⟩ => h x h3 h4), if_pos ⟨p, h1, h2⟩]
theorem dueR_ok {w : Str} (h0 : w ≠ "") (h : ∀ x ∈ wsO w, frO x ≠ none) (h1 : ∀ p ∈ lsO w, 0 < p.2) : dueR w = .ok ((lsO w).map leastP) := by
  unfold dueR; rw [if_neg h0, if_neg (fun ⟨x, h3, h4⟩ => h x h3 h4), if_neg (fun ⟨p, h3, h4⟩ => by have := h1 p h3; omega)]
def N_read_asking_x : List Str := ["text", "asking", "word", "above", "below"]
def body_read_asking_x (cN : Str → Addr) : TS3 := (xSeq (xIfS (xTest (x2 kEq (xView 0) (xC (.str "")))) (xRaise (cN "NoAsking")) xNext)
  (xSeq (xAsgX (xTupX (xLcX (xSeqI (xFz (xSplit (xView 0) (xC (.str " "))))) (xGName 2) (sp_fraction_read_x cN) (xArg (xView 2) xANil) [2])) (xGName 1))
  (xSeq (xDropX (xCallX (sp_need_asking_x cN) (xArg (xView 1) xANil)))
  (xNox (xRet (xD (x1 cTup (xFz (xLc (xSeqI (xView 1)) (xGTup 2 (xGCons (xGName 3) (xGCons (xGName 4) xGNil))) xYes (xCall sp_in_least xNoE (xArg (xView 3) (xArg (xView 4) xANil))) [3, 4])))))))))
def sp_read_asking_x (cN : Str → Addr) : Sp3 := fun ts Q E => ∃ w, ts = [.d (.str w)] ∧ WOk w ∧ (∀ n, dueR w = .error n → E (cN n) ts) ∧ (∀ l, dueR w = .ok l → Q (.d (asD l)) ts)
theorem v_read_asking_x (cN : Str → Addr) (ts Q E) (h : sp_read_asking_x cN ts Q E) : body_read_asking_x cN { nx := fun r => finOk ts r ∧ Q (.d .none) (finF ts r), rt := fun x r => finOk ts r ∧ Q x (finF ts r), ex := fun C r => finOk ts r ∧ E C (finF ts r) } (start3 N_read_asking_x ts) := by
  obtain ⟨w, rfl, hw, he, hq⟩ := h
  have hb : 100000 < sizeLine := by decide
  have hn := hw.n
  have sw : SeqAt.shaped (.str w) = true := shp_str hw.s
  obtain ⟨few, hne⟩ := parts_few (wordsL w) hw
  have few2 : (wsO w).length ≤ 641 := few
  refine ⟨sw, by decide +kernel, fun hc => ?_, fun hc => ⟨by decide +kernel, by omega, fun ps => ⟨nvs_map _ _, fun pc => ?_⟩⟩⟩
  · have h3 : PyData.eqv (.str w) (.str "") = true := hc
    rw [eqv_str] at h3
    exact ⟨⟨⟩, he _ (dueR_empty (of_decide_eq_true h3))⟩
  · have h3 : PyData.eqv (.str w) (.str "") = false := hc
    rw [eqv_str] at h3
    have w0 := of_decide_eq_false h3
    refine ⟨fun i acc r => r = [some (.d (.str w)), none, none, none, none] ∧ acc = ((wsO w).take i).map (fun z => T.d (prI (fqO z))) ∧ ∀ z ∈ (wsO w).take i, frO z ≠ none, ⟨rfl, rfl, fun z hz => by simp at hz⟩, fun i x acc r hx hW => ?_, fun acc r hW => ?_⟩
    · obtain ⟨rfl, rfl, hg⟩ := hW
      obtain ⟨z, hz, rfl⟩ := get_fz (f := fun z => PyData.str z) hx
      have hm := List.mem_of_getElem? hz
      refine ⟨nd0, z, rfl, parts_ok (wordsL w) hw hm, fun p hp => ⟨by rw [List.length_map, List.length_take]; omega, rfl, ?_, ?_⟩, fun hp => ⟨⟨⟩, he _ (dueR_text w0 hm hp)⟩⟩
      · have e : p = fqO z := by unfold fqO; rw [hp]; rfl
        rw [take_succ hz, List.map_append, e]; rfl
      · intro y hy
        rw [take_succ hz] at hy
        rcases List.mem_append.mp hy with hy | hy
        · exact hg y hy
        · rw [List.mem_singleton.mp hy, hp]; nofun
    · obtain ⟨rfl, hacc, hg⟩ := hW
      have e1 : (fzs (List.map (fun z => T.d (PyData.str z)) (Txt.split w " "))).length = (wsO w).length := by rw [fzs_map, List.length_map]
      rw [e1, List.take_length] at hacc hg
      subst hacc
      have ef : fz (T.own pc ((wsO w).map fun z => T.d (prI (fqO z)))) = .list ((lsO w).map prI) := by
        rw [fz_own pc (fun z => prI (fqO z)) (wsO w)]
        unfold lsO
        rw [List.map_map]; rfl
      refine ⟨nvs_map (fun z => prI (fqO z)) _, _, ef, ?_⟩
      have lne : lsO w ≠ [] := fun h => hne (List.map_eq_nil_iff.mp h)
      have llen : (lsO w).length ≤ 1000 := by unfold lsO; rw [List.length_map]; omega
      by_cases hbad : ∃ p ∈ lsO w, p.2 < 1
      · obtain ⟨p, hp, h1⟩ := hbad
        exact ⟨nd0, lsO w, rfl, llen, .inl ⟨.inr ⟨p, hp, h1⟩, ⟨⟩, he _ (dueR_bad w0 hg hp h1)⟩⟩
      · have pos : ∀ p ∈ lsO w, 0 < p.2 := fun p hp => by
          rcases Int.lt_or_le p.2 1 with c | c
          · exact absurd ⟨p, hp, c⟩ hbad
          · omega
        have hq2 := hq _ (dueR_ok w0 hg pos)
        refine ⟨nd0, lsO w, rfl, llen, .inr ⟨lne, pos, lc_gen ((lsO w).map fun p => prI (leastP p)) (by rw [List.length_map, List.length_map]) (by rw [List.length_map]; omega) (fun r0 h0 i x y hx hy R S kR => ?_) fun r0 h0 p1 => ?_⟩⟩
        · simp only [wp, puts, List.set_cons_succ, List.set_cons_zero] at h0; subst h0
          obtain ⟨z, hz, rfl⟩ := get_fun hx
          have := get_map2 hy hz
          subst this
          have hz2 := List.mem_of_getElem? hz
          obtain ⟨v, hv, ev⟩ := List.mem_map.mp hz2
          have sv := frO_sz (parts_ok (wordsL w) hw hv) (fqO_some (hg v hv))
          rw [ev] at sv
          exact ⟨rfl, fun _ => ⟨nd0, z.1, z.2, rfl, pos z hz2, sv.2, kR _ rfl⟩, nofun⟩
        · simp only [wp, puts, List.set_cons_succ, List.set_cons_zero] at h0; subst h0
          refine ⟨nvs_d _, ?_⟩
          rw [fz_outs]
          have e9 : (lsO w).map (fun p => prI (leastP p)) = ((lsO w).map leastP).map prI := by rw [List.map_map]; rfl
          rw [e9]
          exact ⟨⟨⟩, hq2⟩
noncomputable def dueD (w : Str) : PyData := match dueR w with
  | .ok l => .tuple [asD l, .str ""]
  | .error n => .tuple [.none, .str (if n = "NoText" then "text" else "asking")]
theorem dueD_ok {w : Str} {l : List (Int × Int)} (h : dueR w = .ok l) : dueD w = .tuple [asD l, .str ""] := by unfold dueD; rw [h]
theorem dueD_text {w : Str} (h : dueR w = .error "NoText") : dueD w = .tuple [.none, .str "text"] := by unfold dueD; rw [h]; rfl
theorem dueD_ask {w : Str} (h : dueR w = .error "NoAsking") : dueD w = .tuple [.none, .str "asking"] := by
  unfold dueD; rw [h]
  show PyData.tuple [.none, .str (if ("NoAsking" : Str) = "NoText" then "text" else "asking")] = _
  rw [if_neg (by decide +kernel)]
def N_law_due_1 : List Str := ["_law_text", "_law_found", "_law_word", "_law_one", "_law_above", "_law_below_here"]
def body_law_due_1 : TS3 := (xSeq (xIfS (xTest (x2 kEq (xView 0) (xC (.str "")))) (xRet (xTup (xCons (xD (xC .none)) (xCons (xD (xC (.str "asking"))) xNil)))) xNext)
  (xSeq (xAsg (xLc (xSeqI (xFz (xSplit (xView 0) (xC (.str " "))))) (xGName 2) xYes (xCall sp_law_fraction_in xNoE (xArg (xView 2) xANil)) [2]) (xGName 1))
  (xFzS 1 (xSeq (xIfS (xTest (x2 kInD (xC .none) (xView 1))) (xRet (xTup (xCons (xD (xC .none)) (xCons (xD (xC (.str "text"))) xNil)))) xNext)
  (xSeq (xIfS (xTest (x2 kNe (xFz (xLc (xSeqI (xView 1)) (xGName 3) (xTest (x2 kEqI (x2 cIx (xView 3) (xC (.int 1))) (xC (.int 0)))) (xMove 3) [3])) (xFz (xLst xNil)))) (xRet (xTup (xCons (xD (xC .none)) (xCons (xD (xC (.str "asking"))) xNil)))) xNext)
  (xRet (xTup (xCons (xD (x1 cTup (xFz (xLc (xSeqI (xView 1)) (xGTup 2 (xGCons (xGName 4) (xGCons (xGName 5) xGNil))) xYes (xCall sp_law_reduced xNoE (xArg (xView 4) (xArg (xView 5) xANil))) [4, 5])))) (xCons (xD (xC (.str ""))) xNil)))))))))
noncomputable def sp_law_due_1 : Sp3 := fun ts Q _ => ∃ w, ts = [.d (.str w)] ∧ WOk w ∧ Q (.d (dueD w)) ts
theorem v_law_due_1 (ts Q E) (h : sp_law_due_1 ts Q E) : body_law_due_1 { nx := fun r => finOk ts r ∧ Q (.d .none) (finF ts r), rt := fun x r => finOk ts r ∧ Q x (finF ts r) } (start3 N_law_due_1 ts) := by
  obtain ⟨w, rfl, hw, hq⟩ := h
  have hb : 100000 < sizeLine := by decide
  have hn := hw.n
  have sw : SeqAt.shaped (.str w) = true := shp_str hw.s
  obtain ⟨few, hne⟩ := parts_few (wordsL w) hw
  have few2 : (wsO w).length ≤ 641 := few
  refine ⟨sw, by decide +kernel, fun hc => ?_, fun hc => ⟨by decide +kernel, by omega, fun ps => ⟨nvs_map _ _, ?_⟩⟩⟩
  · have h3 : PyData.eqv (.str w) (.str "") = true := hc
    rw [eqv_str] at h3
    rw [dueD_ask (dueR_empty (of_decide_eq_true h3))] at hq
    exact ⟨sz 2, ⟨⟩, hq⟩
  · have h3 : PyData.eqv (.str w) (.str "") = false := hc
    rw [eqv_str] at h3
    have w0 := of_decide_eq_false h3
    have e1 : fz (T.own ps ((Txt.split w " ").map fun z => T.d (.str z))) = .list ((wsO w).map PyData.str) := by
      rw [fz_own ps (fun z => PyData.str z) (wsO w)]
    rw [e1]
    refine lc_gen ((wsO w).map fun z => optP (frO z)) (by rw [List.length_map, List.length_map]) (by rw [List.length_map]; omega) (fun r0 h0 i x y hx hy R S kR => ?_) fun r0 h0 p1 => ?_
    · simp only [wp, puts, List.set_cons_succ, List.set_cons_zero] at h0; subst h0
      obtain ⟨z, hz, rfl⟩ := get_fun hx
      have := get_map2 hy hz
      subst this
      exact ⟨fun _ => ⟨nd0, z, rfl, parts_ok (wordsL w) hw (List.mem_of_getElem? hz), kR _ rfl⟩, nofun⟩
    · simp only [wp, puts, List.set_cons_succ, List.set_cons_zero] at h0; subst h0
      refine ⟨nvs_d _, ?_⟩
      rw [fz_outs]
      refine ⟨_, rfl, rfl, ?_, by decide, fun hc => ?_, fun hc => ?_⟩
      · have hn2 : Nest 4 (.list ((wsO w).map fun z => optP (frO z))) := ⟨by rw [List.length_map]; omega, fun y hy => by
          obtain ⟨z, _, rfl⟩ := List.mem_map.mp hy
          cases frO z with
          | none => exact ⟨⟩
          | some p => exact nest_pr (n := 1) p⟩
        have := (nest_lay 4 _ hn2).1
        simpa [PyData.canLay0] using this
      · have h4 : (((wsO w).map fun z => optP (frO z)).any fun y => PyData.eqv y .none) = true := hc
        rw [List.any_map, List.any_eq_true] at h4
        obtain ⟨z, hz, e⟩ := h4
        have e2 : frO z = none := by
          cases e5 : frO z with
          | none => rfl
          | some p =>
            have e6 : PyData.eqv (optP (frO z)) .none = true := e
            rw [e5] at e6
            exact absurd e6 (by show ¬ PyData.eqv (prI p) .none = true; simp [PyData.eqv])
        rw [dueD_text (dueR_text w0 hz e2)] at hq
        exact ⟨sz 2, ⟨⟩, hq⟩
      · have h4 : (((wsO w).map fun z => optP (frO z)).any fun y => PyData.eqv y .none) = false := hc
        have hg : ∀ z ∈ wsO w, frO z ≠ none := fun z hz e => by
          rw [List.any_map, List.any_eq_false] at h4
          apply h4 z hz
          show PyData.eqv (optP (frO z)) .none = true
          rw [e]
          show PyData.eqv .none .none = true
          simp [PyData.eqv]
        have el : ((wsO w).map fun z => optP (frO z)) = (lsO w).map prI := by
          unfold lsO
          rw [List.map_map]
          refine List.map_congr_left fun z hz => ?_
          rw [fqO_some (hg z hz)]; rfl
        have ll : (lsO w).length ≤ 641 := by unfold lsO; rw [List.length_map]; omega
        have lp : ∀ p ∈ lsO w, 0 ≤ p.2 ∧ Sz 8000 p.2 := fun p hp => by
          obtain ⟨z, hz, rfl⟩ := List.mem_map.mp hp
          exact frO_sz (parts_ok (wordsL w) hw hz) (fqO_some (hg z hz))
        rw [el]
        refine lc_filt4 (src := lsO w) (f := prI) (P := fun p => decide (p.2 = 0)) (out := prI) (by omega) (fun r0 h0 p hp R S kR kS => ?_) fun r0 h0 p2 => ?_
        · simp only [wp, puts, List.set_cons_succ, List.set_cons_zero] at h0; subst h0
          exact ⟨_, rfl, fun h1 => kR h1 _ rfl, fun h1 => kS h1 _ rfl⟩
        simp only [wp, puts, List.set_cons_succ, List.set_cons_zero] at h0; subst h0
        refine ⟨nvs_map _ _, sz 0, fun p3 => ⟨rfl, ?_⟩⟩
        rw [fz_own p2 prI]
        have fl := List.length_filter_le (fun p : Int × Int => decide (p.2 = 0)) (lsO w)
        have nl : Nest 4 (.list (((lsO w).filter fun p => decide (p.2 = 0)).map prI)) := ⟨by rw [List.length_map]; omega, fun y hy => by
          obtain ⟨p, _, rfl⟩ := List.mem_map.mp hy
          exact nest_pr (n := 1) p⟩
        refine ⟨nest_shaped nl (by decide), shp_nilL, fun h5 => ?_, fun h5 => ?_⟩
        · have h6 : (!PyData.eqv (.list (((lsO w).filter fun p => decide (p.2 = 0)).map prI)) (.list [])) = true := h5
          cases ef : (lsO w).filter fun p => decide (p.2 = 0) with
          | nil =>
            rw [ef] at h6
            have h7 : (!PyData.eqv (.list []) (.list [])) = true := h6
            rw [eqv_nn] at h7; cases h7
          | cons p r =>
            have hm : p ∈ (lsO w).filter fun p => decide (p.2 = 0) := by rw [ef]; simp
            obtain ⟨m1, m2⟩ := List.mem_filter.mp hm
            have := of_decide_eq_true m2
            rw [dueD_ask (dueR_bad w0 hg m1 (by omega))] at hq
            exact ⟨sz 2, ⟨⟩, hq⟩
        · have h6 : (!PyData.eqv (.list (((lsO w).filter fun p => decide (p.2 = 0)).map prI)) (.list [])) = false := h5
          have pos : ∀ p ∈ lsO w, 0 < p.2 := fun p hp => by
            have := (lp p hp).1
            by_cases c : p.2 = 0
            · exfalso
              have hm : p ∈ (lsO w).filter fun p => decide (p.2 = 0) := List.mem_filter.mpr ⟨hp, decide_eq_true c⟩
              rw [eqv_nilL (fun z => by
                have := List.map_eq_nil_iff.mp z
                rw [this] at hm; cases hm)] at h6
              cases h6
            · omega
          rw [dueD_ok (dueR_ok w0 hg pos)] at hq
          refine lc_gen ((lsO w).map fun p => prI (leastP p)) (by rw [List.length_map, List.length_map]) (by rw [List.length_map]; omega) (fun r0 h0 i x y hx hy R S kR => ?_) fun r0 h0 p1 => ?_
          · simp only [wp, puts, List.set_cons_succ, List.set_cons_zero] at h0; subst h0
            obtain ⟨z, hz, rfl⟩ := get_fun hx
            have := get_map2 hy hz
            subst this
            have hz2 := List.mem_of_getElem? hz
            exact ⟨rfl, fun _ => ⟨nd0, z.1, z.2, rfl, pos z hz2, (lp z hz2).2, kR _ rfl⟩, nofun⟩
          · simp only [wp, puts, List.set_cons_succ, List.set_cons_zero] at h0; subst h0
            refine ⟨nvs_d _, ?_⟩
            rw [fz_outs]
            have e9 : (lsO w).map (fun p => prI (leastP p)) = ((lsO w).map leastP).map prI := by rw [List.map_map]; rfl
            rw [e9]
            exact ⟨sz 2, ⟨⟩, hq⟩
end L3
set_option pp.maxSteps 600
namespace L3
open PySem PySem.Spec PyProof.Rows L2 TL
local macro_rules | `(tactic| wtm_at "sh") => `(tactic| conv => whnf)
/-! ## k04: what is told, and whether it is right -/
theorem dueR_err {w n : Str} (h : dueR w = .error n) : n = "NoAsking" ∨ n = "NoText" := by
  unfold dueR at h
  split at h
  · cases h; exact .inl rfl
  · split at h
    · cases h; exact .inr rfl
    · split at h
      · cases h; exact .inl rfl
      · cases h
def N_law_same_2 : List Str := ["_law_found", "_law_due_here", "_law_one", "_law_other"]
def body_law_same_2 (sp_law_same_2 : Sp3) : TS3 := (xSeq (xIfS (xTest (x1 (cIsi2 "tuple" "list") (xView 1))) (xSeq (xIfS (xOr (xTest (x2 kNe (x1 (cIsi "tuple") (xView 0)) (x1 (cIsi "tuple") (xView 1)))) (xTest (x2 kNe (x1 (cIsi "list") (xView 0)) (x1 (cIsi "list") (xView 1))))) (xRet (xD (xC (.bool false)))) xNext)
  (xSeq (xIfS (xTest (x2 kNeI (x1 cLen (xView 0)) (x1 cLen (xView 1)))) (xRet (xD (xC (.bool false)))) xNext)
  (xRet (xD (x2 kEq (xFz (xLc (xZip (xView 0) (xView 1)) (xGTup 2 (xGCons (xGName 2) (xGCons (xGName 3) xGNil))) (xNot (xTest (xFz (xCall sp_law_same_2 xNoE (xArg (xView 2) (xArg (xView 3) xANil)))))) (xD (xC (.int 1))) [2, 3])) (xFz (xLst xNil))))))) xNext)
  (xSeq (xIfS (xOr (xTest (x2 kIsN (xView 1) (xC .none))) (xTest (x1 (cIsi "str") (xView 1)))) (xRet (xD (xAndV (x2 kEq (xView 0) (xView 1)) (x2 kEq (x1 (cIsi "str") (xView 0)) (x1 (cIsi "str") (xView 1)))))) xNext)
  (xRet (xD (xAndV (x1 (cIsi "int") (xView 0)) (xAndV (xNotV (x1 (cIsi "bool") (xView 0))) (x2 kEq (xView 0) (xView 1))))))))
def sp_law_same_2 (n : Nat) : Sp3 := sp_law_same_1 n
theorem v_law_same_2 (n) (ts Q E) (h : sp_law_same_2 (n + 1) ts Q E) : body_law_same_2 (sp_law_same_2 n) { nx := fun r => finOk ts r ∧ Q (.d .none) (finF ts r), rt := fun x r => finOk ts r ∧ Q x (finF ts r) } (start3 N_law_same_2 ts) := v_law_same_1 n ts Q E h
def sevens (m : Int) : List PyData := (List.range 7).map fun k : Nat => PyData.bool (decide ((k : Int) = m))
theorem seven_at {m : Int} {i : Nat} {x y : PyData} (hx : (rangeI 0 7)[i]? = some x) (hy : (sevens m)[i]? = some y) : ∃ k : Int, x = .int k ∧ y = .bool (decide (k = m)) := by
  have e : rangeI 0 7 = (List.range 7).map fun k : Nat => PyData.int (k : Int) := by rfl
  rw [e] at hx
  obtain ⟨z, hz, rfl⟩ := get_fun hx
  exact ⟨z, rfl, get_map2 (f := fun k : Nat => PyData.bool (decide ((k : Int) = m))) hy hz⟩
theorem z0_law_same_2 {ts : List T} {Q : T → List T → Prop} {E : Addr → List T → Prop} (h : sp_law_same_2 0 ts Q E) : False := z0_law_same_1 h
def N_law_told_1 : List Str := ["_law_text", "_law_found", "_law_caught", "e", "_law_flags_here", "_law_k"]
def body_law_told_1 (cN : Str → Addr) : TS3 := (xSeq (xAsg (xD (xC .none)) (xGName 1))
  (xSeq (xAsg (xD (xC .none)) (xGName 2))
  (xSeq (xTry (Under cN) 3 (xAsgX (xCallX (sp_read_asking_x cN) (xArg (xView 0) xANil)) (xGName 1)) (xAsg (xMove 3) (xGName 2)))
  (xSeq (xIfS (xTest (x2 kIsN (xView 2) (xC .none))) (xRet (xTup (xCons (xMove 1) (xCons (xD (xC (.str ""))) xNil)))) xNext)
  (xSeq (xAsg (xCall (sp_law_flags cN) xNoE (xArg (xView 2) xANil)) (xGName 4))
  (xSeq (xIfS (xTest (x2 kEq (xView 4) (xFz (xLc (xR1 (xC (.int 7))) (xGName 5) xYes (xD (x2 kEqI (xView 5) (xC (.int 2)))) [5])))) (xRet (xTup (xCons (xD (xC .none)) (xCons (xD (xC (.str "text"))) xNil)))) xNext)
  (xRet (xTup (xCons (xD (xC .none)) (xCons (xD (x2 cIx (xFz (xLst (xCons (xD (xC (.str "other"))) (xCons (xD (xC (.str "asking"))) xNil)))) (x1 cInt (x2 kEq (xView 4) (xFz (xLc (xR1 (xC (.int 7))) (xGName 5) xYes (xD (x2 kEqI (xView 5) (xC (.int 0)))) [5])))))) xNil))))))))))
noncomputable def sp_law_told_1 : Sp3 := sp_law_due_1
theorem v_law_told_1 (cN : Str → Addr) (ts Q E) (h : sp_law_told_1 ts Q E) : body_law_told_1 cN { nx := fun r => finOk ts r ∧ Q (.d .none) (finF ts r), rt := fun x r => finOk ts r ∧ Q x (finF ts r) } (start3 N_law_told_1 ts) := by
  obtain ⟨w, rfl, hw, hq⟩ := h
  have hb : 100000 < sizeLine := by decide
  refine ⟨nd0, w, rfl, hw, fun n hn => ?_, fun l hl => ?_⟩
  · rcases dueR_err hn with rfl | rfl
    · rw [dueD_ask hn] at hq
      refine ⟨⟨"NoAsking", by decide, rfl⟩, ⟨⟩, nofun, fun _ => ⟨nd0, "NoAsking", rfl, by decide, fun p => ⟨by decide, by decide, lc_gen (sevens 2) (by decide) (by decide) (fun r0 h0 i x y hx hy R S kR => ?_) fun r0 h0 p1 => ?_⟩⟩⟩
      · simp only [wp, puts, List.set_cons_succ, List.set_cons_zero] at h0; subst h0
        obtain ⟨k, rfl, rfl⟩ := seven_at hx hy
        exact ⟨fun _ => kR _ rfl, nofun⟩
      simp only [wp, puts, List.set_cons_succ, List.set_cons_zero] at h0; subst h0
      refine ⟨nvs_d _, ?_⟩
      rw [fz_outs]
      refine ⟨rfl, nvs_map _ _, ?_⟩
      rw [fz_own p (fun b => PyData.bool b)]
      refine ⟨by decide +kernel, by decide +kernel, fun hc => ?_, fun _ => ?_⟩
      · exact absurd (show PyData.eqv (.list ((flagsL "NoAsking").map fun b => PyData.bool b)) (.list (sevens 2)) = true from hc) (by decide +kernel)
      refine ⟨sz 2, fun p2 => ⟨rfl, by decide, by decide, lc_gen (sevens 0) (by decide) (by decide) (fun r0 h0 i x y hx hy R S kR => ?_) fun r0 h0 p1 => ?_⟩⟩
      · simp only [wp, puts, List.set_cons_succ, List.set_cons_zero] at h0; subst h0
        obtain ⟨k, rfl, rfl⟩ := seven_at hx hy
        exact ⟨fun _ => kR _ rfl, nofun⟩
      simp only [wp, puts, List.set_cons_succ, List.set_cons_zero] at h0; subst h0
      refine ⟨nvs_d _, ?_⟩
      rw [fz_outs]
      refine ⟨rfl, nvs_map _ _, ?_⟩
      rw [fz_own p (fun b => PyData.bool b)]
      refine ⟨by decide +kernel, by decide +kernel, ?_⟩
      rw [show PyData.eqv (.list ((flagsL "NoAsking").map fun b => PyData.bool b)) (.list (sevens 0)) = true by decide +kernel]
      exact ⟨.str "asking", rfl, sz 2, ⟨⟩, hq⟩
    · rw [dueD_text hn] at hq
      refine ⟨⟨"NoText", by decide, rfl⟩, ⟨⟩, nofun, fun _ => ⟨nd0, "NoText", rfl, by decide, fun p => ⟨by decide, by decide, lc_gen (sevens 2) (by decide) (by decide) (fun r0 h0 i x y hx hy R S kR => ?_) fun r0 h0 p1 => ?_⟩⟩⟩
      · simp only [wp, puts, List.set_cons_succ, List.set_cons_zero] at h0; subst h0
        obtain ⟨k, rfl, rfl⟩ := seven_at hx hy
        exact ⟨fun _ => kR _ rfl, nofun⟩
      simp only [wp, puts, List.set_cons_succ, List.set_cons_zero] at h0; subst h0
      refine ⟨nvs_d _, ?_⟩
      rw [fz_outs]
      refine ⟨rfl, nvs_map _ _, ?_⟩
      rw [fz_own p (fun b => PyData.bool b)]
      refine ⟨by decide +kernel, by decide +kernel, fun _ => ⟨sz 2, ⟨⟩, hq⟩, fun hc => ?_⟩
      exact absurd (show PyData.eqv (.list ((flagsL "NoText").map fun b => PyData.bool b)) (.list (sevens 2)) = false from hc) (by decide +kernel)
  · rw [dueD_ok hl] at hq
    exact ⟨⟨⟩, fun _ => ⟨sz 2, ⟨⟩, hq⟩, nofun⟩
theorem dueD_form (w : Str) (hw : WOk w) : (∃ a s, dueD w = .tuple [a, .str s] ∧ SeqAt.shaped (.str s) = true) ∧ Nest 8 (dueD w) := by
  have two : ∀ a s, Nest 7 a → SeqAt.shaped (.str s) = true → Nest 8 (.tuple [a, .str s]) := fun a s ha hs => ⟨by show 2 < sizeLine; decide, fun y hy => by
    rcases List.mem_cons.mp hy with rfl | hy
    · exact ha
    · rw [List.mem_singleton.mp hy]; exact hs⟩
  have s1 : SeqAt.shaped (.str "") = true := by decide +kernel
  have s2 : SeqAt.shaped (.str "text") = true := by decide +kernel
  have s3 : SeqAt.shaped (.str "asking") = true := by decide +kernel
  cases e : dueR w with
  | ok l =>
    rw [dueD_ok e]
    refine ⟨⟨_, _, rfl, s1⟩, two _ _ ?_ s1⟩
    have ll : l.length ≤ 641 := by
      unfold dueR at e
      have := (parts_few (wordsL w) hw).1
      split at e
      · cases e
      · split at e
        · cases e
        · split at e
          · cases e
          · cases e
            unfold lsO
            rw [List.length_map, List.length_map]; exact this
    have hb : 1000 < sizeLine := by decide
    exact ⟨by rw [List.length_map]; omega, fun y hy => by
      obtain ⟨p, _, rfl⟩ := List.mem_map.mp hy
      exact nest_pr (n := 4) p⟩
  | error n =>
    rcases dueR_err e with rfl | rfl
    · rw [dueD_ask e]; exact ⟨⟨_, _, rfl, s3⟩, two _ _ ⟨⟩ s3⟩
    · rw [dueD_text e]; exact ⟨⟨_, _, rfl, s2⟩, two _ _ ⟨⟩ s2⟩
def N_law_right_1 : List Str := ["_law_text", "_law_words", "_law_numbers", "_law_due_here", "_law_great", "_law_word", "_law_number"]
def body_law_right_1 : TS3 := (xSeq (xAsg (xSplit (xView 0) (xC (.str " "))) (xGName 1))
  (xFzS 1 (xSeq (xAsg (xSumL (xFz (xLc (xSeqI (xView 1)) (xGName 5) xYes (xSplit (xView 5) (xC (.str "/"))) [5])) (xFz (xLst xNil))) (xGName 2))
  (xFzS 2 (xSeq (xAsg (xCall sp_law_due_1 xNoE (xArg (xView 0) xANil)) (xGName 3))
  (xSeq (xAsg (xD (xOrV (x2 kGt (x1 cLen (xView 1)) (xC (.int 3))) (x2 kGt (x1 cMaxL (xFz (xLc (xSeqI (xView 2)) (xGName 6) xYes (xD (x2 kSub (x1 cLen (xView 6)) (x1 cInt (x2 kEq (xFz (xSl (xView 6) xNo (xSome (xC (.int 1))))) (xC (.str "-")))))) [6]))) (xC (.int 20))))) (xGName 4))
  (xSeq (xIfS (xAnd (xTest (xView 4)) (xTest (x2 kNe (x2 cIx (xView 3) (xC (.int 1))) (xC (.str "text"))))) (xRet (xD (xC (.bool true)))) xNext)
  (xRet (xD (xAndV (xFz (xCall (sp_law_same_2 8) xNoE (xArg (xFz (xCall sp_law_told_1 xNoE (xArg (xView 0) xANil))) (xArg (xView 3) xANil)))) (xFz (xCall (sp_law_same_2 8) xNoE (xArg (xFz (xCall sp_law_told_1 xNoE (xArg (xView 0) xANil))) (xArg (xView 3) xANil))))))))))))))
def sp_law_right_1 : Sp3 := fun ts Q _ => ∃ w, ts = [.d (.str w)] ∧ WOk w ∧ Q (.d (.bool true)) ts
def psO (w : Str) : List Str := (wsO w).flatMap fun z => Txt.split z "/"
theorem psO_len {w : Str} (hw : WOk w) : (psO w).length ≤ 410881 ∧ ∀ z ∈ psO w, WOk z := by
  refine ⟨?_, fun z hz => ?_⟩
  · have h1 : ∀ l : List Str, (∀ z ∈ l, WOk z) → (l.flatMap fun z => Txt.split z "/").length ≤ 641 * l.length := by
      intro l
      induction l with
      | nil => intro _; simp
      | cons z l ih =>
        intro h
        rw [List.flatMap_cons, List.length_append, List.length_cons]
        have := (parts_few (partsL z) (h z (by simp))).1
        have := ih fun y hy => h y (List.mem_cons_of_mem _ hy)
        omega
    have := h1 (wsO w) fun z hz => parts_ok (wordsL w) hw hz
    have h2 : (wsO w).length ≤ 641 := (parts_few (wordsL w) hw).1
    unfold psO
    omega
  · obtain ⟨y, hy, hz⟩ := List.mem_flatMap.mp hz
    exact parts_ok (partsL y) (parts_ok (wordsL w) hw hy) hz
end L3
set_option pp.maxSteps 600
namespace L3
open PySem PySem.Spec PyProof.Rows L2 TL
local macro_rules | `(tactic| wtm_at "sh") => `(tactic| conv => whnf)
theorem nvs_append4 : ∀ (l m : List T), nvs (l ++ m) = (nvs l && nvs m)
  | [], m => rfl
  | x :: l, m => by
    show (nv x && nvs (l ++ m)) = ((nv x && nvs l) && nvs m)
    rw [nvs_append4 l m, Bool.and_assoc]
theorem allI_ints (l : List Int) : allI (l.map PyData.int) = true := by
  induction l with
  | nil => rfl
  | cons x l ih => simpa [allI] using ih
theorem intL_ints (l : List Int) : intL (l.map PyData.int) = l := by
  induction l with
  | nil => rfl
  | cons x l ih => simp [intL] at *; try exact ih
theorem v_law_right_1 (ts Q E) (h : sp_law_right_1 ts Q E) : body_law_right_1 { nx := fun r => finOk ts r ∧ Q (.d .none) (finF ts r), rt := fun x r => finOk ts r ∧ Q x (finF ts r) } (start3 N_law_right_1 ts) := by
  obtain ⟨w, rfl, hw, hq⟩ := h
  have hb : 1000000 < sizeLine := by decide
  have hn := hw.n
  obtain ⟨few, hne⟩ := parts_few (wordsL w) hw
  have few2 : (wsO w).length ≤ 641 := few
  obtain ⟨pl, pok⟩ := psO_len hw
  have hbw : ∀ z ∈ wsO w, WOk z := fun z hz => parts_ok (wordsL w) hw hz
  refine ⟨by decide +kernel, by omega, fun p1 => ⟨nvs_map _ _, ?_⟩⟩
  have e1 : fz (T.own p1 ((Txt.split w " ").map fun z => T.d (.str z))) = .list ((wsO w).map PyData.str) := by
    rw [fz_own p1 (fun z => PyData.str z) (wsO w)]
  rw [e1]
  intro p2
  refine ⟨fun i acc r => r = [some (.d (.str w)), some (.d (.list ((wsO w).map PyData.str))), none, none, none, none, none] ∧ acc.length = i ∧ nvs acc = true ∧ fzs acc = (((wsO w).take i).map fun z => (Txt.split z "/").map PyData.str).map PyData.list, ⟨rfl, rfl, rfl, rfl⟩, fun i x acc r hx hW => ?_, fun acc r hW => ?_⟩
  · obtain ⟨rfl, ha, hv, hf⟩ := hW
    obtain ⟨z, hz, rfl⟩ := get_fun hx
    have hz2 := hbw z (List.mem_of_getElem? hz)
    have hi := (List.getElem?_eq_some_iff.mp hz).1
    have := hz2.n
    refine ⟨fun _ => ⟨by decide +kernel, by omega, fun p3 => ⟨by omega, rfl, by rw [List.length_append, ha]; rfl, ?_, ?_⟩⟩, nofun⟩
    · rw [nvs_append4, hv]
      show (true && (nvs ((Txt.split z "/").map fun y => T.d (.str y)) && true)) = true
      rw [nvs_map (fun y => PyData.str y)]; rfl
    · rw [fzs_append, hf, take_succ hz, List.map_append, List.map_append]
      congr 1
      show [fz (T.own p3 ((Txt.split z "/").map fun y => T.d (.str y)))] = _
      rw [fz_own p3 (fun y => PyData.str y)]
      rfl
  · obtain ⟨rfl, ha, hv, hf⟩ := hW
    rw [List.length_map] at ha hf
    rw [List.take_length] at hf
    refine ⟨hv, sz 0, fun p4 => ⟨rfl, ?_⟩⟩
    have el : fz (T.own p2 acc) = .list (((wsO w).map fun z => (Txt.split z "/").map PyData.str).map PyData.list) := by
      show PyData.list (fzs acc) = _
      rw [hf]
    have eF : ((wsO w).map fun z => (Txt.split z "/").map PyData.str).flatten = (psO w).map PyData.str := by
      unfold psO
      rw [List.map_flatMap]; rfl
    have eS : (((wsO w).map fun z => (Txt.split z "/").map PyData.str).map (·.length)).sum = (psO w).length := by
      rw [← List.length_flatten, eF, List.length_map]
    rw [el]
    refine ⟨_, [], rfl, rfl, by simpa using hne, by rw [eS]; simp; omega, fun p5 => ?_⟩
    rw [List.nil_append, eF]
    refine ⟨nvs_d _, ?_⟩
    rw [fz_outs]
    refine ⟨nd0, w, rfl, hw, ?_⟩
    obtain ⟨⟨a, s, ed, ss⟩, nd⟩ := dueD_form w hw
    have fin : ∀ b : Bool, (xSeq (xIfS (xAnd (xTest (xView 4)) (xTest (x2 kNe (x2 cIx (xView 3) (xC (.int 1))) (xC (.str "text"))))) (xRet (xD (xC (.bool true)))) xNext)
        (xRet (xD (xAndV (xFz (xCall (sp_law_same_2 8) xNoE (xArg (xFz (xCall sp_law_told_1 xNoE (xArg (xView 0) xANil))) (xArg (xView 3) xANil)))) (xFz (xCall (sp_law_same_2 8) xNoE (xArg (xFz (xCall sp_law_told_1 xNoE (xArg (xView 0) xANil))) (xArg (xView 3) xANil)))))))) { nx := fun r => finOk [.d (.str w)] r ∧ Q (.d .none) (finF [.d (.str w)] r), rt := fun x r => finOk [.d (.str w)] r ∧ Q x (finF [.d (.str w)] r) } [some (.d (.str w)), some (.d (.list ((wsO w).map PyData.str))), some (.d (.list ((psO w).map PyData.str))), some (.d (dueD w)), some (.d (.bool b)), none, none] := fun b => by
      have last : (xRet (xD (xAndV (xFz (xCall (sp_law_same_2 8) xNoE (xArg (xFz (xCall sp_law_told_1 xNoE (xArg (xView 0) xANil))) (xArg (xView 3) xANil)))) (xFz (xCall (sp_law_same_2 8) xNoE (xArg (xFz (xCall sp_law_told_1 xNoE (xArg (xView 0) xANil))) (xArg (xView 3) xANil))))))) { nx := fun r => finOk [.d (.str w)] r ∧ Q (.d .none) (finF [.d (.str w)] r), rt := fun x r => finOk [.d (.str w)] r ∧ Q x (finF [.d (.str w)] r) } [some (.d (.str w)), some (.d (.list ((wsO w).map PyData.str))), some (.d (.list ((psO w).map PyData.str))), some (.d (dueD w)), some (.d (.bool b)), none, none] :=
        ⟨nd0, w, rfl, hw, nd0, dueD w, rfl, nd, fun _ => ⟨nd0, w, rfl, hw, nd0, dueD w, rfl, nd, ⟨⟩, hq⟩, nofun⟩
      refine ⟨fun hb => ?_, fun hb => ⟨nofun, fun _ => last⟩⟩
      rw [ed] at last ⊢
      exact ⟨_, rfl, ss, by decide +kernel, ⟨fun _ => ⟨⟨⟩, hq⟩, fun _ => last⟩⟩
    have ww : ∀ z ∈ psO w, (cutS z none (some 1)).length ≤ 640 := fun z hz => (cut_ok (pok z hz)).n
    refine ⟨fun _ => fin true, fun _ => lc_gen ((psO w).map fun z => PyData.int ((z.length : Int) - (if PyData.eqv (.str (cutS z none (some 1))) (.str "-") = true then 1 else 0))) (by rw [List.length_map, List.length_map]) (by rw [List.length_map]; omega) (fun r0 h0 i x y hx hy R S kR => ?_) fun r0 h0 p1 => ?_⟩
    · simp only [wp, puts, List.set_cons_succ, List.set_cons_zero] at h0; subst h0
      obtain ⟨z, hz, rfl⟩ := get_fun hx
      have := get_map2 hy hz
      subst this
      have hz2 := pok z (List.mem_of_getElem? hz)
      have := hz2.n
      have sc : SeqAt.shaped (.str (cutS z none (some 1))) = true := shp_str (cut_ok hz2).s
      exact ⟨fun _ => ⟨by omega, by omega, sc, by decide +kernel, kR _ rfl⟩, nofun⟩
    · simp only [wp, puts, List.set_cons_succ, List.set_cons_zero] at h0; subst h0
      refine ⟨nvs_d _, ?_⟩
      rw [fz_outs]
      have eI : ((psO w).map fun z => PyData.int ((z.length : Int) - (if PyData.eqv (.str (cutS z none (some 1))) (.str "-") = true then 1 else 0))) = ((psO w).map fun z => ((z.length : Int) - (if PyData.eqv (.str (cutS z none (some 1))) (.str "-") = true then 1 else 0))).map PyData.int := by rw [List.map_map]; rfl
      rw [eI]
      refine ⟨allI_ints _, ?_⟩
      rw [intL_ints]
      refine ⟨fun h => ?_, fin _⟩
      have h2 := List.map_eq_nil_iff.mp h
      cases e : wsO w with
      | nil => exact hne e
      | cons z l =>
        have h3 := (parts_few (partsL z) (hbw z (by rw [e]; simp))).2
        unfold psO at h2
        rw [e, List.flatMap_cons] at h2
        exact h3 (List.append_eq_nil_iff.mp h2).1
end L3
set_option pp.maxSteps 600
namespace L3
open PySem PySem.Spec PyProof.Rows L2 TL
local macro_rules | `(tactic| wtm_at "sh") => `(tactic| conv => whnf)
/-! ## k04: spoilt texts -/
def N_law_sign : List Str := ["_law_deck_here", "_law_wide", "_law_menu"]
def body_law_sign : TS3 := (xSeq (xAsg (xD (xC (.str " !\"#$&'()*+,-./0123456789:;<=>?@ABCDEFGHIJKLMNOP"))) (xGName 1))
  (xSeq (xAsg (x2 cAdd (xView 1) (xC (.str "QRSTUVWXYZ[\\]^_`abcdefghijklmnopqrstuvwxyz{|}~\n"))) (xGName 1))
  (xSeq (xAsg (xD (x2 cIx (xFz (xLst (xCons (xD (xC (.str "0019/ -/+_\n"))) (xCons (xMove 1) xNil)))) (xFz (xCall sp_law_take xNoE (xIo 0 (xArg (xC (.int 2)) xANil)))))) (xGName 2))
  (xRet (xD (x2 cIx (xView 2) (xFz (xCall sp_law_take xNoE (xIo 0 (xArg (x1 cLen (xView 2)) xANil))))))))))
def sp_law_sign : Sp3 := fun ts Q _ => ∃ n a l, ts = [.own a l] ∧ DeckOk (n + 2) l ∧ ∀ c l', c < 1114112 → DeckOk n l' → Q (.d (.str ⟨#[c]⟩)) [.own a l']
theorem v_law_sign (ts Q E) (h : sp_law_sign ts Q E) : body_law_sign { nx := fun r => finOk ts r ∧ Q (.d .none) (finF ts r), rt := fun x r => finOk ts r ∧ Q x (finF ts r) } (start3 N_law_sign ts) := by
  obtain ⟨n, a, l, rfl, hd, hq⟩ := h
  refine ⟨by decide +kernel, sz 2, fun p => ⟨rfl, nd1, n + 1, a, l, 2, rfl, hd, by decide, by decide, fun x l1 h0 h1 hd1 => ?_⟩⟩
  rcases (show x = 0 ∨ x = 1 by omega) with rfl | rfl
  · refine ⟨_, rfl, by decide +kernel, nd1, n, a, l1, _, rfl, hd1, by decide +kernel, by decide +kernel, fun x2 l2 k0 k1 hd2 => ⟨by decide +kernel, ?_⟩⟩
    obtain ⟨c, e, _, hm⟩ := getI_of (l := tl "0019/ -/+_\n") k0 k1
    exact ⟨c, e, ⟨rfl, ⟨⟩⟩, hq c l2 ((show ∀ c ∈ tl "0019/ -/+_\n", c < 1114112 by decide +kernel) c hm) hd2⟩
  · refine ⟨_, rfl, by decide +kernel, nd1, n, a, l1, _, rfl, hd1, by decide +kernel, by decide +kernel, fun x2 l2 k0 k1 hd2 => ⟨by decide +kernel, ?_⟩⟩
    obtain ⟨c, e, _, hm⟩ := getI_of k0 k1
    exact ⟨c, e, ⟨rfl, ⟨⟩⟩, hq c l2 (of_decide_eq_true ((List.all_eq_true (p := fun c => decide (c < 1114112))).mp (by decide +kernel) c hm)) hd2⟩
/-- texts of no more than k signs -/
structure WO (k : Nat) (w : Str) : Prop where
  n : w.length ≤ k
  s : SgT w
theorem WO.ok {k : Nat} {w : Str} (h : WO k w) (hk : k ≤ 640) : WOk w := ⟨by have := h.n; omega, h.s⟩
def sg (l : List Str) : Nat := (l.map fun z => z.length + 1).sum
theorem sg_app (l m : List Str) : sg (l ++ m) = sg l + sg m := by unfold sg; rw [List.map_append, List.sum_append]
theorem sg_cons (z : Str) (m : List Str) : sg (z :: m) = z.length + 1 + sg m := rfl
theorem spl_sg {c : Nat} : ∀ l acc : List Nat, ((spl [c] 0 acc l).map fun z => z.length + 1).sum = acc.length + l.length + 1
  | [], acc => by rw [spl_nil]; rfl
  | a :: l, acc => by
    rw [spl_one]
    split
    · rw [List.map_cons, List.sum_cons, spl_sg l []]
      simp only [List.length_nil, List.length_cons]; omega
    · rw [spl_sg l (acc ++ [a])]
      simp only [List.length_append, List.length_nil, List.length_cons]; omega
theorem sg_words (w : Str) : sg (wsO w) = w.length + 1 := by
  have h := spl_sg (c := 32) (tl w) []
  rw [← wordsL w, List.map_map] at h
  have e : sg (wsO w) = ((wsO w).map ((fun z : List Nat => z.length + 1) ∘ tl)).sum := by
    unfold sg
    congr 1
  rw [e, len_tl]
  simpa using h
theorem joinL_sg : ∀ l : List Str, (joinL [32] (l.map tl)).length ≤ sg l - 1 ∧ ∀ c ∈ joinL [32] (l.map tl), c = 32 ∨ ∃ z ∈ l, c ∈ tl z
  | [] => ⟨by simp [joinL], fun c h => by simp [joinL] at h⟩
  | [z] => ⟨by show (tl z).length ≤ _; rw [sg_cons, len_tl]; omega, fun c h => .inr ⟨z, by simp, h⟩⟩
  | z :: y :: l => by
    obtain ⟨h1, h2⟩ := joinL_sg (y :: l)
    refine ⟨?_, fun c h => ?_⟩
    · show (tl z ++ ([32] ++ joinL [32] ((y :: l).map tl))).length ≤ _
      rw [sg_cons, sg_cons] at *
      simp only [List.length_append, List.length_cons, List.length_nil]
      rw [len_tl z]
      omega
    · have h3 : c ∈ tl z ++ ([32] ++ joinL [32] ((y :: l).map tl)) := h
      rcases List.mem_append.mp h3 with h4 | h4
      · exact .inr ⟨z, by simp, h4⟩
      · rcases List.mem_append.mp h4 with h5 | h5
        · exact .inl (List.mem_singleton.mp h5)
        · rcases h2 c h5 with h6 | ⟨x, hx, h6⟩
          · exact .inl h6
          · exact .inr ⟨x, List.mem_cons_of_mem _ hx, h6⟩
theorem join_WO {k : Nat} {l : List Str} (h : sg l ≤ k + 1) (hs : ∀ z ∈ l, SgT z) : WO k (Txt.join " " l) := by
  have e : tl (Txt.join " " l) = joinL [32] (l.map tl) := by rw [join_eq, tl_join]; rfl
  obtain ⟨h1, h2⟩ := joinL_sg l
  refine ⟨by rw [len_tl, e]; omega, fun c hc => ?_⟩
  rw [e] at hc
  rcases h2 c hc with h3 | ⟨z, hz, h3⟩
  · omega
  · exact hs z hz c h3
theorem join_room {l : List Str} (h : sg l ≤ 1000) : (l.map (·.length)).sum + l.length * (" " : Str).length ≤ 16777216 := by
  have : ∀ l : List Str, (l.map (·.length)).sum + l.length = sg l := by
    intro l
    induction l with
    | nil => rfl
    | cons z l ih => rw [sg_cons, ← ih, List.map_cons, List.sum_cons, List.length_cons]; omega
  have e : (" " : Str).length = 1 := by decide +kernel
  rw [e, Nat.mul_one, this]
  omega
def spoT : TS3 := (xSeq (xIfS (xTest (x2 kEqI (xView 3) (xC (.int 0)))) (xRet (x2 cAdd (xFz (xSl (xView 1) xNo (xSome (xView 2)))) (xFz (xSl (xView 1) (xSome (x2 kAdd (xView 2) (xC (.int 1)))) xNo)))) xNext)
  (xSeq (xIfS (xTest (x2 kEqI (xView 3) (xC (.int 1)))) (xRet (x2 cAdd (xFz (x2 cAdd (xFz (xSl (xView 1) xNo (xSome (xView 2)))) (xFz (xCall sp_law_sign xNoE (xIo 0 xANil))))) (xFz (xSl (xView 1) (xSome (xView 2)) xNo)))) xNext)
  (xSeq (xIfS (xTest (x2 kEqI (xView 3) (xC (.int 2)))) (xRet (x2 cAdd (xFz (x2 cAdd (xFz (xSl (xView 1) xNo (xSome (xView 2)))) (xFz (xCall sp_law_sign xNoE (xIo 0 xANil))))) (xFz (xSl (xView 1) (xSome (x2 kAdd (xView 2) (xC (.int 1)))) xNo)))) xNext)
  (xSeq (xIfS (xTest (x2 kEqI (xView 3) (xC (.int 3)))) (xDrop (xInsS 4 (xView 5) (xView 7))) (xIfS (xTest (x2 kEqI (xView 3) (xC (.int 4)))) (xDrop (xPopS 4 (xView 5))) (xIfS (xTest (x2 kEqI (xView 3) (xC (.int 5)))) (xAsg (xMove 7) (xGSub 4 (xView 5))) (xAsg (x2 cAdd (xFz (x2 cAdd (x2 cIx (xFz (xSplit (x2 cIx (xView 4) (xView 5)) (xC (.str "/")))) (xC (.int 0))) (xC (.str "/")))) (xView 7)) (xGSub 4 (xView 5))))))
  (xRet (xD (xJoin (xC (.str " ")) (xView 4))))))))
theorem cut_take {α : Type} (l : List α) (b : Nat) : cutL l none (some (b : Int)) = l.take b := by
  unfold cutL
  rw [HT.sIx_nat, HT.sIx_none]
  show (l.drop 0).take (min b l.length - 0) = _
  rw [List.drop_zero, Nat.sub_zero]
  rcases Nat.le_total b l.length with h | h
  · rw [Nat.min_eq_left h]
  · rw [Nat.min_eq_right h, List.take_length, List.take_of_length_le h]
theorem cut_drop {α : Type} (l : List α) (b : Nat) : cutL l (some (b : Int)) none = l.drop b := by
  unfold cutL
  rw [HT.sIx_nat, HT.sIx_none]
  show (l.drop (min b l.length)).take (l.length - min b l.length) = _
  rw [List.take_of_length_le (by rw [List.length_drop]; omega)]
  rcases Nat.le_total b l.length with h | h
  · rw [Nat.min_eq_left h]
  · rw [Nat.min_eq_right h, List.drop_length, List.drop_eq_nil_of_le h]
theorem v_spoT {D : Ends3} {n k : Nat} {a p4 : Addr} {l4 : List T} {w odd : Str} {way one : Int} {b : Nat} {s6 : Option T} (hd : DeckOk (n + 2) l4) (hw : WO k w) (hk : k ≤ 630) (ha : b ≤ w.length) (y0 : 0 ≤ way) (y1 : way < 7) (o0 : 0 ≤ one) (o1 : one < (wsO w).length) (z5 : odd.length ≤ 5) (zs : SgT odd)
    (hq : ∀ u l' rest, WO (k + 6) u → DeckOk n l' → D.rt (.d (.str u)) (some (.own a l') :: some (.d (.str w)) :: rest)) :
    spoT D [some (.own a l4), some (.d (.str w)), some (.d (.int (b : Int))), some (.d (.int way)), some (.own p4 ((wsO w).map fun z => T.d (.str z))), some (.d (.int one)), s6, some (.d (.str odd))] := by
  have hb : 1000000 < sizeLine := by decide
  have hn := hw.n
  have hw' := hw.ok (by omega)
  obtain ⟨few, hne⟩ := parts_few (wordsL w) hw'
  have few2 : (wsO w).length ≤ 641 := few
  have hbw : ∀ z ∈ wsO w, WOk z := fun z hz => parts_ok (wordsL w) hw' hz
  have hsg := sg_words w
  have dk : DeckOk n l4 := hd.mono (by omega)
  have t1 : ∀ b : Nat, (cutS w none (some (b : Int))).length = min b w.length ∧ SgT (cutS w none (some (b : Int))) := fun b => by
    refine ⟨by rw [len_tl, tl_cut, cut_take, List.length_take, len_tl], (cut_ok hw').s⟩
  have t2 : ∀ b : Nat, (cutS w (some (b : Int)) none).length = w.length - b ∧ SgT (cutS w (some (b : Int)) none) := fun b => by
    refine ⟨by rw [len_tl, tl_cut, cut_drop, List.length_drop, len_tl], (cut_ok hw').s⟩
  have app : ∀ x y : Str, (x ++ y).length = x.length + y.length ∧ (SgT x → SgT y → SgT (x ++ y)) := fun x y => by
    refine ⟨by rw [len_tl, tl_append, List.length_append, len_tl, len_tl], fun hx hy c hc => ?_⟩
    rw [tl_append] at hc
    rcases List.mem_append.mp hc with h | h
    · exact hx c h
    · exact hy c h
  have one1 : ∀ c : Nat, (⟨#[c]⟩ : Str).length = 1 ∧ (c < 1114112 → SgT (⟨#[c]⟩ : Str)) := fun c => ⟨rfl, fun h x hx => by
    have : x = c := by simpa using hx
    rw [this]; exact h⟩
  have T1 := t1 b
  have T2 := t2 b
  have T3 : (cutS w (some ((b : Int) + 1)) none).length = w.length - (b + 1) ∧ SgT (cutS w (some ((b : Int) + 1)) none) := t2 (b + 1)
  refine ⟨fun _ => ?_, fun h0 => ⟨fun _ => ?_, fun h1 => ⟨fun _ => ?_, fun h2 => ?_⟩⟩⟩
  · have A := app (cutS w none (some (b : Int))) (cutS w (some ((b : Int) + 1)) none)
    exact ⟨by omega, by omega, by omega, hq _ l4 _ ⟨by omega, A.2 T1.2 T3.2⟩ dk⟩
  · refine ⟨by omega, nd1, n, a, l4, rfl, hd, fun c l5 hc hd5 => ?_⟩
    have C := one1 c
    have A := app (cutS w none (some (b : Int))) ⟨#[c]⟩
    have B := app (cutS w none (some (b : Int)) ++ ⟨#[c]⟩) (cutS w (some (b : Int)) none)
    exact ⟨by omega, by omega, by omega, hq _ l5 _ ⟨by omega, B.2 (A.2 T1.2 (C.2 hc)) T2.2⟩ hd5⟩
  · refine ⟨by omega, nd1, n, a, l4, rfl, hd, fun c l5 hc hd5 => ?_⟩
    have C := one1 c
    have A := app (cutS w none (some (b : Int))) ⟨#[c]⟩
    have B := app (cutS w none (some (b : Int)) ++ ⟨#[c]⟩) (cutS w (some ((b : Int) + 1)) none)
    exact ⟨by omega, by omega, by omega, hq _ l5 _ ⟨by omega, B.2 (A.2 T1.2 (C.2 hc)) T3.2⟩ hd5⟩
  · have fin : ∀ (ys : List Str) rest, sg ys ≤ k + 7 → (∀ z ∈ ys, SgT z) → (xRet (xD (xJoin (xC (.str " ")) (xView 4)))) D (some (.own a l4) :: some (.d (.str w)) :: some (.d (.int (b : Int))) :: some (.d (.int way)) :: some (.own p4 (ys.map fun z => T.d (.str z))) :: rest) := fun ys rest h1 h2 =>
      ⟨ys, rfl, join_room (by omega), hq _ l4 _ (join_WO (by omega) h2) dk⟩
    have ho : one.toNat < (wsO w).length := by omega
    have parts : sg ((wsO w).take one.toNat) + sg ((wsO w).drop one.toNat) = w.length + 1 := by rw [← sg_app, List.take_append_drop, hsg]
    have parts2 : sg ((wsO w).drop one.toNat) = ((wsO w)[one.toNat]).length + 1 + sg ((wsO w).drop (one.toNat + 1)) := by rw [List.drop_eq_getElem_cons ho, sg_cons]
    have st : ∀ z ∈ (wsO w).take one.toNat, SgT z := fun z hz => (hbw z (List.mem_of_mem_take hz)).s
    have sd : ∀ j, ∀ z ∈ (wsO w).drop j, SgT z := fun j z hz => (hbw z (List.mem_of_mem_drop hz)).s
    have hone : SgT odd := zs
    have setL : ∀ x : Str, ((wsO w).map fun z => T.d (.str z)).set one.toNat (T.d (.str x)) = ((wsO w).take one.toNat ++ x :: (wsO w).drop (one.toNat + 1)).map fun z => T.d (.str z) := fun x => by
      rw [← List.map_set (f := fun z => T.d (PyData.str z)), List.set_eq_take_append_cons_drop, if_pos ho]
    have lm : ((wsO w).map fun z => T.d (.str z)).length = (wsO w).length := List.length_map ..
    have gi : getI ((wsO w).map fun z => T.d (.str z)) one = some (T.d (.str (wsO w)[one.toNat])) := by
      obtain ⟨t, ht, ht2, _⟩ := getI_of (l := (wsO w).map fun z => T.d (.str z)) o0 (by rw [lm]; exact o1)
      rw [ht, ← ht2, List.getElem?_map, List.getElem?_eq_getElem ho]; rfl
    have hz1 := hbw _ (List.getElem_mem ho)
    refine ⟨fun _ => ?_, fun h3 => ⟨fun _ => ?_, fun h4 => ⟨fun _ => ?_, fun h5 => ?_⟩⟩⟩
    · refine ⟨⟨_, _, rfl⟩, p4, wsO w, rfl, by omega, o0, by omega, fin _ _ ?_ ?_⟩
      · rw [sg_app, sg_app, sg_cons]; show _ + (odd.length + 1 + 0) + _ ≤ _; omega
      · intro z hz
        rcases List.mem_append.mp hz with hz | hz
        · rcases List.mem_append.mp hz with hz | hz
          · exact st z hz
          · rw [List.mem_singleton.mp hz]; exact zs
        · exact sd _ z hz
    · refine ⟨⟨_, _, rfl⟩, p4, wsO w, _, rfl, by omega, o0, List.getElem?_eq_getElem ho, fin _ _ ?_ ?_⟩
      · rw [List.eraseIdx_eq_take_drop_succ, sg_app]; omega
      · intro z hz
        exact (hbw z (List.mem_of_mem_eraseIdx hz)).s
    · refine ⟨_, setI_in _ o0 (by rw [lm]; exact o1), ?_⟩
      rw [setL]
      refine fin _ _ ?_ ?_
      · rw [sg_app, sg_cons]; omega
      · intro z hz
        rcases List.mem_append.mp hz with hz | hz
        · exact st z hz
        · rcases List.mem_cons.mp hz with rfl | hz
          · exact zs
          · exact sd _ z hz
    · obtain ⟨x, r, ex⟩ : ∃ x r, Txt.split ((wsO w)[one.toNat]) "/" = x :: r := by
        have h := (parts_few (partsL ((wsO w)[one.toNat])) hz1).2
        cases e : Txt.split ((wsO w)[one.toNat]) "/" with
        | nil => exact absurd e h
        | cons x r => exact ⟨x, r, rfl⟩
      have xl : x.length ≤ ((wsO w)[one.toNat]).length := by
        have h1 : tl x ∈ spl [47] 0 [] (tl ((wsO w)[one.toNat])) := by rw [← partsL, ex]; simp
        have := (spl_part_in _ _ _ h1).1
        rw [len_tl, len_tl]; simpa using this
      have xs : SgT x := (parts_ok (partsL _) hz1 (by rw [ex]; simp)).s
      have hzn := hz1.n
      have sl : ("/" : Str).length = 1 := by decide +kernel
      have ss : SgT ("/" : Str) := fun c hc => by
        have : c = 47 := by
          have h : tl ("/" : Str) = [47] := by decide +kernel
          rw [h] at hc; exact List.mem_singleton.mp hc
        omega
      have A := app x "/"
      have B := app (x ++ "/") odd
      refine ⟨rfl, _, gi, by decide +kernel, by omega, fun p8 => ⟨nvs_map _ _, ?_⟩⟩
      rw [fz_own p8 (fun z => PyData.str z), ex]
      refine ⟨_, rfl, by omega, by omega, _, setI_in _ o0 (by rw [lm]; exact o1), ?_⟩
      rw [setL]
      refine fin _ _ ?_ ?_
      · rw [sg_app, sg_cons]; omega
      · intro z hz
        rcases List.mem_append.mp hz with hz | hz
        · exact st z hz
        · rcases List.mem_cons.mp hz with rfl | hz
          · exact B.2 (A.2 xs ss) zs
          · exact sd _ z hz
end L3
set_option pp.maxSteps 600
namespace L3
open PySem PySem.Spec PyProof.Rows L2 TL
local macro_rules | `(tactic| wtm_at "sh") => `(tactic| conv => whnf)
def N_law_spoilt_1 : List Str := ["_law_deck_here", "_law_text", "_law_at", "_law_way", "_law_words", "_law_one", "_law_odd", "_law_word"]
def body_law_spoilt_1 : TS3 := (xSeq (xAsg (xCall sp_law_take xNoE (xIo 0 (xArg (x2 kAdd (x1 cLen (xView 1)) (xC (.int 1))) xANil))) (xGName 2))
  (xSeq (xAsg (xCall sp_law_take xNoE (xIo 0 (xArg (xC (.int 7)) xANil))) (xGName 3))
  (xSeq (xAsg (xSplit (xView 1) (xC (.str " "))) (xGName 4))
  (xSeq (xAsg (xCall sp_law_take xNoE (xIo 0 (xArg (x1 cLen (xView 4)) xANil))) (xGName 5))
  (xSeq (xAsg (xLst (xCons (xD (xC (.str "1/0"))) (xCons (xD (xC (.str "0/0"))) (xCons (xD (xC (.str "-0/1"))) (xCons (xD (xC (.str "01/2"))) (xCons (xD (xC (.str "1/02"))) (xCons (xD (xC (.str "+1/2"))) (xCons (xD (xC (.str "1"))) (xCons (xD (xC (.str ""))) (xCons (xD (xC (.str "/"))) (xCons (xD (xC (.str "1/"))) (xCons (xD (xC (.str "/2"))) (xCons (xD (xC (.str "1/-2"))) (xCons (xD (xC (.str "--1/2"))) (xCons (xD (xC (.str "1/2/3"))) (xCons (xD (xC (.str "-3/1"))) xNil)))))))))))))))) (xGName 6))
  (xFzS 6 (xSeq (xAsg (x2 cAdd (xView 6) (xFz (xLst (xCons (xD (xC (.str "1_0/2"))) (xCons (xD (xC (.str "1.0/2"))) (xCons (xD (xC (.str "x/2"))) (xCons (xD (xC (.str "0/3"))) (xCons (xD (xC (.str "-1/0"))) (xCons (xD (xC (.str "6/4"))) (xCons (xD (xC (.str "-/2"))) xNil)))))))))) (xGName 6))
  (xFzS 6 (xSeq (xAsg (xD (x2 cIx (xView 6) (xFz (xCall sp_law_take xNoE (xIo 0 (xArg (xC (.int 22)) xANil)))))) (xGName 7))
  (xSeq (xIfS (xTest (x2 kEqI (xView 3) (xC (.int 0)))) (xRet (x2 cAdd (xFz (xSl (xView 1) xNo (xSome (xView 2)))) (xFz (xSl (xView 1) (xSome (x2 kAdd (xView 2) (xC (.int 1)))) xNo)))) xNext)
  (xSeq (xIfS (xTest (x2 kEqI (xView 3) (xC (.int 1)))) (xRet (x2 cAdd (xFz (x2 cAdd (xFz (xSl (xView 1) xNo (xSome (xView 2)))) (xFz (xCall sp_law_sign xNoE (xIo 0 xANil))))) (xFz (xSl (xView 1) (xSome (xView 2)) xNo)))) xNext)
  (xSeq (xIfS (xTest (x2 kEqI (xView 3) (xC (.int 2)))) (xRet (x2 cAdd (xFz (x2 cAdd (xFz (xSl (xView 1) xNo (xSome (xView 2)))) (xFz (xCall sp_law_sign xNoE (xIo 0 xANil))))) (xFz (xSl (xView 1) (xSome (x2 kAdd (xView 2) (xC (.int 1)))) xNo)))) xNext)
  (xSeq (xIfS (xTest (x2 kEqI (xView 3) (xC (.int 3)))) (xDrop (xInsS 4 (xView 5) (xView 7))) (xIfS (xTest (x2 kEqI (xView 3) (xC (.int 4)))) (xDrop (xPopS 4 (xView 5))) (xIfS (xTest (x2 kEqI (xView 3) (xC (.int 5)))) (xAsg (xMove 7) (xGSub 4 (xView 5))) (xAsg (x2 cAdd (xFz (x2 cAdd (x2 cIx (xFz (xSplit (x2 cIx (xView 4) (xView 5)) (xC (.str "/")))) (xC (.int 0))) (xC (.str "/")))) (xView 7)) (xGSub 4 (xView 5))))))
  (xRet (xD (xJoin (xC (.str " ")) (xView 4)))))))))))))))))
def sp_law_spoilt_1 : Sp3 := fun ts Q _ => ∃ n a l k w, ts = [.own a l, .d (.str w)] ∧ DeckOk (n + 6) l ∧ WO k w ∧ k ≤ 630 ∧ ∀ u l', WO (k + 6) u → DeckOk n l' → Q (.d (.str u)) [.own a l', .d (.str w)]
def oddL : List Str := ["1/0", "0/0", "-0/1", "01/2", "1/02", "+1/2", "1", "", "/", "1/", "/2", "1/-2", "--1/2", "1/2/3", "-3/1", "1_0/2", "1.0/2", "x/2", "0/3", "-1/0", "6/4", "-/2"]
theorem oddL_ok : ∀ z ∈ oddL, z.length ≤ 5 ∧ SgT z := by
  have h : oddL.all (fun z => decide (z.length ≤ 5) && (tl z).all fun c => decide (c < 1114112)) = true := by decide +kernel
  intro z hz
  have := List.all_eq_true.mp h z hz
  rw [Bool.and_eq_true] at this
  exact ⟨of_decide_eq_true this.1, fun c hc => of_decide_eq_true (List.all_eq_true.mp this.2 c hc)⟩
set_option maxHeartbeats 1000000 in
theorem v_law_spoilt_1 (ts Q E) (h : sp_law_spoilt_1 ts Q E) : body_law_spoilt_1 { nx := fun r => finOk ts r ∧ Q (.d .none) (finF ts r), rt := fun x r => finOk ts r ∧ Q x (finF ts r) } (start3 N_law_spoilt_1 ts) := by
  obtain ⟨n, a, l, k, w, rfl, hd, hw, hk, hq⟩ := h
  have hb : 1000000 < sizeLine := by decide
  have hn := hw.n
  have hw' := hw.ok (by omega)
  obtain ⟨few, hne⟩ := parts_few (wordsL w) hw'
  have few2 : (wsO w).length ≤ 641 := few
  have hbw : ∀ z ∈ wsO w, WOk z := fun z hz => parts_ok (wordsL w) hw' hz
  have wpos : 0 < (wsO w).length := List.length_pos_iff.mpr hne
  have hsg := sg_words w
  refine ⟨by omega, nd1, n + 5, a, l, _, rfl, hd, by omega, by omega, fun at1 l1 a0 a1 hd1 => ?_⟩
  refine ⟨nd1, n + 4, a, l1, _, rfl, hd1, by decide, by decide, fun way l2 y0 y1 hd2 => ?_⟩
  refine ⟨by decide +kernel, by omega, fun p4 => ?_⟩
  have e4 : ((((wsO w).map fun z => T.d (.str z)).length : Nat) : Int) = (wsO w).length := by rw [List.length_map]
  refine ⟨nd1, n + 3, a, l2, _, rfl, hd2, by rw [e4]; omega, by rw [e4]; omega, fun one l3 o0 o1 hd3 => ?_⟩
  rw [e4] at o1
  refine ⟨sz 15, fun p5 => ⟨rfl, sz 7, fun p6 => ⟨rfl, by decide, fun p7 => ⟨rfl, ?_⟩⟩⟩⟩
  refine ⟨nd1, n + 2, a, l3, _, rfl, hd3, by decide, by decide, fun x l4 x0 x1 hd4 => ?_⟩
  obtain ⟨z, hz, _, hm⟩ := getI_of (l := oddL) x0 (by show x < 22; exact x1)
  obtain ⟨z5, zs⟩ := oddL_ok z hm
  obtain ⟨b, rfl⟩ : ∃ b : Nat, at1 = (b : Int) := ⟨at1.toNat, by omega⟩
  refine ⟨.str z, ?_, v_spoT hd4 hw hk (by omega) y0 y1 o0 o1 z5 zs fun u l' rest hu hd5 => ⟨⟨rfl, ⟨⟩⟩, hq u l' hu hd5⟩⟩
  have e : getI (oddL.map PyData.str) x = some (.str z) := by rw [getI_map, hz]; rfl
  exact e
end L3
set_option pp.maxSteps 600
namespace L3
open PySem PySem.Spec PyProof.Rows L2 TL
local macro_rules | `(tactic| wtm_at "sh") => `(tactic| conv => whnf)
theorem askS_WO {l : List (Int × Int)} (h : ∀ p ∈ l, OkT p) (hl : l.length ≤ 3) : WO 612 (askS l) := by
  refine ⟨by have := askS_len h; rw [len_tl]; omega, fun c hc => ?_⟩
  have := askS_sign hc
  omega
theorem joinL_none : ∀ l : List Str, (∀ z ∈ l, ∃ c, c < 1114112 ∧ z = ⟨#[c]⟩) → (joinL [] (l.map tl)).length = l.length ∧ ∀ c ∈ joinL [] (l.map tl), c < 1114112
  | [], _ => ⟨by simp [joinL], fun c h => by simp [joinL] at h⟩
  | [z], h => by
    obtain ⟨c, hc, rfl⟩ := h z (by simp)
    exact ⟨rfl, fun x hx => by
      have h2 : x ∈ [c] := hx
      rw [List.mem_singleton.mp h2]; exact hc⟩
  | z :: y :: l, h => by
    obtain ⟨c, hc, rfl⟩ := h z (by simp)
    obtain ⟨h1, h2⟩ := joinL_none (y :: l) fun x hx => h x (List.mem_cons_of_mem _ hx)
    refine ⟨?_, fun x hx => ?_⟩
    · show ([c] ++ ([] ++ joinL [] ((y :: l).map tl))).length = _
      simp only [List.length_append, List.length_cons, List.length_nil, h1]; omega
    · have h3 : x ∈ [c] ++ ([] ++ joinL [] ((y :: l).map tl)) := hx
      rw [List.nil_append] at h3
      rcases List.mem_append.mp h3 with h4 | h4
      · rw [List.mem_singleton.mp h4]; exact hc
      · exact h2 x h4
theorem join_none {l : List Str} (h : ∀ z ∈ l, ∃ c, c < 1114112 ∧ z = ⟨#[c]⟩) (hl : l.length ≤ 640) : WOk (Txt.join "" l) := by
  have e : tl (Txt.join "" l) = joinL [] (l.map tl) := by rw [join_eq, tl_join]; rfl
  obtain ⟨h1, h2⟩ := joinL_none l h
  exact ⟨by rw [len_tl, e, h1]; exact hl, fun c hc => by rw [e] at hc; exact h2 c hc⟩
def fixL : List Str := ["", " ", "1/2 ", " 1/2", "1/2  1/3", "1/2\n", "0/0 x", "1/0 1/2", "1/2 3/0", "0/1"]
theorem fixL_ok : ∀ z ∈ fixL, WOk z := by
  have h : fixL.all (fun z => decide (z.length ≤ 640) && (tl z).all fun c => decide (c < 1114112)) = true := by decide +kernel
  intro z hz
  have := List.all_eq_true.mp h z hz
  rw [Bool.and_eq_true] at this
  exact ⟨of_decide_eq_true this.1, fun c hc => of_decide_eq_true (List.all_eq_true.mp this.2 c hc)⟩
def N_law_4 : List Str := ["_law_script", "_law_deck_here", "_law_turn", "_law_text", "_law_again", "_law_once", "_law_free", "_law_k", "_law_above", "_law_below_here"]
def body_law_4 : TS3 := (xSeq (xAsg (xCall sp_law_deck xNoE (xArg (xView 0) xANil)) (xGName 1))
  (xSeq (xFor (xR1 (xC (.int 6))) (xGName 2) (xSeq (xAsg (xD (xJoin (xC (.str " ")) (xFz (xLc (xSeqI (xFz (xCall sp_law_asking_1 xNoE (xIo 1 xANil)))) (xGTup 2 (xGCons (xGName 8) (xGCons (xGName 9) xGNil))) xYes (x2 cAdd (xFz (x2 cAdd (x1 cStr (xView 8)) (xC (.str "/")))) (x1 cStr (xView 9))) [8, 9])))) (xGName 3))
  (xFor (xR1 (xC (.int 5))) (xGName 4) (xSeq (xAsg (xCall sp_law_spoilt_1 xNoE (xIo 1 (xArg (xView 3) xANil))) (xGName 5))
  (xIfS (xOr (xNot (xTest (xFz (xCall sp_law_right_1 xNoE (xArg (xView 3) xANil))))) (xOr (xNot (xTest (xFz (xCall sp_law_right_1 xNoE (xArg (xView 5) xANil))))) (xNot (xTest (xFz (xCall sp_law_right_1 xNoE (xArg (xFz (xCall sp_law_spoilt_1 xNoE (xIo 1 (xArg (xView 5) xANil)))) xANil))))))) (xRet (xD (xC (.bool false)))) xNext)))))
  (xSeq (xAsg (xD (xJoin (xC (.str "")) (xFz (xLc (xR1 (xFz (xCall sp_law_take xNoE (xIo 1 (xArg (xC (.int 61)) xANil))))) (xGName 7) xYes (xCall sp_law_sign xNoE (xIo 1 xANil)) [7])))) (xGName 6))
  (xSeq (xFor (xSeqI (xFz (xLst (xCons (xMove 6) (xCons (xD (xC (.str ""))) (xCons (xD (xC (.str " "))) (xCons (xD (xC (.str "1/2 "))) (xCons (xD (xC (.str " 1/2"))) (xCons (xD (xC (.str "1/2  1/3"))) (xCons (xD (xC (.str "1/2\n"))) (xCons (xD (xC (.str "0/0 x"))) (xCons (xD (xC (.str "1/0 1/2"))) (xCons (xD (xC (.str "1/2 3/0"))) (xCons (xD (xC (.str "0/1"))) xNil)))))))))))))) (xGName 3) (xIfS (xNot (xTest (xFz (xCall sp_law_right_1 xNoE (xArg (xView 3) xANil))))) (xRet (xD (xC (.bool false)))) xNext))
  (xRet (xD (xC (.bool true))))))))
set_option maxHeartbeats 1000000 in
theorem v_law_4 (ts Q E) (h : spLaw ts Q E) : body_law_4 { nx := fun r => finOk ts r ∧ Q (.d .none) (finF ts r), rt := fun x r => finOk ts r ∧ Q x (finF ts r) } (start3 N_law_4 ts) := by
  obtain ⟨a, ns, rfl, hl, q⟩ := h
  have hb : 1000 < sizeLine := by decide
  have ofF : ∀ z : Int × Int, FrOk z → OkT z := fun z hz => ⟨hz.1, Nat.lt_of_lt_of_le (show z.1.natAbs < 10 ^ 30 by have := hz.2.2; omega) (Nat.pow_le_pow_right (by decide) (by decide)), Nat.lt_of_lt_of_le (show z.2.natAbs < 10 ^ 30 by have := hz.1; have := hz.2.1; omega) (Nat.pow_le_pow_right (by decide) (by decide))⟩
  have s1 : ("/" : Str).length = 1 := by decide +kernel
  have one : ∀ z : Int × Int, OkT z → z.1.natAbs.log2 < 1920 ∧ (Str.ofString (toString z.1)).length + (Str.ofString "/").length ≤ sizeLine ∧ z.2.natAbs.log2 < 1920 ∧ (Str.ofString (toString z.1) ++ Str.ofString "/").length + (Str.ofString (toString z.2)).length ≤ sizeLine := fun z hz => by
    have l1 := (sz_ten hz.2.1).log
    have l2 := (sz_ten hz.2.2).log
    have n1 : (Str.ofString (toString z.1)).length ≤ 101 := iS_len hz.2.1
    have n2 : (Str.ofString (toString z.2)).length ≤ 101 := iS_len hz.2.2
    have n3 : (Str.ofString (toString z.1) ++ Str.ofString "/").length ≤ 102 := by
      rw [len_tl, tl_append, List.length_append, ← len_tl, ← len_tl, s1]; omega
    have s2 : (Str.ofString "/").length = 1 := s1
    exact ⟨by omega, by omega, by omega, by omega⟩
  refine ⟨nd0, a, ns, rfl, hl, fun dk l0 hd0 => ?_⟩
  refine ⟨by decide, by decide, fun i r => ∃ l b c d e, r = [some (.sc a ns), some (.own dk l), b, c, d, e, none, none, none, none] ∧ i ≤ 6 ∧ DeckOk (200 + (6 - i) * 200) l, ⟨l0, _, _, _, _, rfl, by decide, hd0.mono (by decide)⟩, fun i x r hx hW => ?_, fun r hW => ?_⟩
  · obtain ⟨l, b, c, d, e, rfl, hi, hd⟩ := hW
    obtain ⟨hi4, rfl⟩ := rangeI_get hx
    have hi4' : i < 6 := hi4
    refine ⟨nd1, 200 + (5 - i) * 200 + 120, dk, l, rfl, hd.mono (by omega), fun p l1 hp hd1 => ?_⟩
    obtain ⟨hne, hlen, hfr⟩ := hp
    have okp : ∀ z ∈ p, OkT z := fun z hz => ofF z (hfr z hz)
    have hw := askS_WO okp hlen
    refine lc_gen (p.map fun z => PyData.str (frS z)) (by rw [List.length_map, List.length_map]) (by rw [List.length_map]; omega) (fun r0 h0 i x y hx hy R S kR => ?_) fun r0 h0 p1 => ?_
    · simp only [wp, puts, List.set_cons_succ, List.set_cons_zero] at h0; subst h0
      obtain ⟨z, hz, rfl⟩ := get_fun hx
      have := get_map2 hy hz
      subst this
      have o := one z (okp z (List.mem_of_getElem? hz))
      exact ⟨rfl, fun _ => ⟨o.1, o.2.1, o.2.2.1, o.2.2.2, kR _ rfl⟩, nofun⟩
    · simp only [wp, puts, List.set_cons_succ, List.set_cons_zero] at h0; subst h0
      refine ⟨nvs_d _, ?_⟩
      rw [fz_outs]
      refine ⟨p.map frS, by rw [List.map_map]; rfl, join_small okp (by omega), ?_⟩
      refine ⟨by decide, by decide, fun j r => ∃ l b d e, r = [some (.sc a ns), some (.own dk l), b, some (.d (.str (askS p))), d, e, none, none, none, none] ∧ j ≤ 5 ∧ DeckOk (200 + (5 - i) * 200 + (5 - j) * 20) l, ⟨l1, _, _, _, rfl, by decide, hd1.mono (by omega)⟩, fun j x r hx hW => ?_, fun r hW => ?_⟩
      · obtain ⟨l, b, d, e, rfl, hj, hd⟩ := hW
        obtain ⟨hj4, rfl⟩ := rangeI_get hx
        have hj4' : j < 5 := hj4
        refine ⟨nd1, 200 + (5 - i) * 200 + (4 - j) * 20 + 10, dk, l, 612, _, rfl, hd.mono (by omega), hw, by decide, fun u l2 hu hd2 => ?_⟩
        refine ⟨nd0, _, rfl, hw.ok (by decide), nofun, fun _ => ⟨nd0, u, rfl, hu.ok (by decide), nofun, fun _ => ⟨nd1, 200 + (5 - i) * 200 + (4 - j) * 20, dk, l2, 618, u, rfl, hd2.mono (by omega), hu, by decide, fun u2 l3 hu2 hd3 => ⟨nd0, u2, rfl, hu2.ok (by decide), nofun, fun _ => ?_⟩⟩⟩⟩
        exact ⟨l3, _, _, _, rfl, by omega, hd3.mono (by omega)⟩
      · obtain ⟨l, b, d, e, rfl, hj, hd⟩ := hW
        exact ⟨l, _, _, _, _, rfl, by omega, hd.mono (by omega)⟩
  · obtain ⟨l, b, c, d, e, rfl, hi, hd⟩ := hW
    refine ⟨nd1, 150, dk, l, _, rfl, hd.mono (by omega), by decide, by decide, fun x l1 x0 x1 hd1 => ⟨by omega, by omega, fun p1 => ?_⟩⟩
    refine ⟨fun i acc r => ∃ l us, r = [some (.sc a ns), some (.own dk l), b, c, d, e, none, none, none, none] ∧ acc = us.map (fun z => T.d (.str z)) ∧ us.length = i ∧ i ≤ 61 ∧ (∀ z ∈ us, ∃ c, c < 1114112 ∧ z = ⟨#[c]⟩) ∧ DeckOk (10 + (61 - i) * 2) l, ⟨l1, [], rfl, rfl, rfl, by decide, nofun, hd1.mono (by omega)⟩, fun i x acc r hx hW => ?_, fun acc r hW => ?_⟩
    · obtain ⟨l, us, rfl, rfl, hlu, hi2, hus, hd⟩ := hW
      obtain ⟨hi4, rfl⟩ := rangeI_get hx
      have hi5 : i < 61 := by omega
      refine ⟨fun _ => ⟨nd1, 10 + (60 - i) * 2, dk, l, rfl, hd.mono (by omega), fun c l2 hc hd2 => ⟨by rw [List.length_map]; omega, l2, us ++ [⟨#[c]⟩], rfl, by rw [List.map_append]; rfl, by rw [List.length_append, hlu]; rfl, by omega, fun z hz => ?_, hd2.mono (by omega)⟩⟩, nofun⟩
      rcases List.mem_append.mp hz with hz | hz
      · exact hus z hz
      · exact ⟨c, hc, List.mem_singleton.mp hz⟩
    · obtain ⟨l, us, rfl, rfl, hlu, hi2, hus, hd⟩ := hW
      have hfree : WOk (Txt.join "" us) := join_none hus (by omega)
      refine ⟨nvs_map _ _, ?_⟩
      rw [fz_own p1 (fun z => PyData.str z)]
      refine ⟨us, rfl, ?_, ?_⟩
      · have e0 : ("" : Str).length = 0 := by decide +kernel
        have hs : ∀ us : List Str, (∀ z ∈ us, ∃ c, c < 1114112 ∧ z = ⟨#[c]⟩) → (us.map (·.length)).sum = us.length := by
          intro us
          induction us with
          | nil => intro _; rfl
          | cons z us ih =>
            intro h
            obtain ⟨c, _, e⟩ := h z (by simp)
            rw [List.map_cons, List.sum_cons, ih fun y hy => h y (List.mem_cons_of_mem _ hy), List.length_cons, e]
            show 1 + us.length = _
            omega
        rw [e0, hs us hus]
        omega
      refine ⟨sz 11, fun p2 => ⟨rfl, ?_⟩⟩
      refine ⟨fun i r => ∃ c d e g h, r = [some (.sc a ns), some (.own dk l), b, c, d, e, g, h, none, none], ⟨_, _, _, _, _, rfl⟩, fun i x r hx hW => ?_, fun r hW => ?_⟩
      · obtain ⟨c, d, e, g, h, rfl⟩ := hW
        have hx2 : ((Txt.join "" us :: fixL).map PyData.str)[i]? = some x := hx
        obtain ⟨z, hz, rfl⟩ := get_fun hx2
        have hz2 : WOk z := by
          rcases List.mem_cons.mp (List.mem_of_getElem? hz) with rfl | h
          · exact hfree
          · exact fixL_ok z h
        exact ⟨nd0, z, rfl, hz2, nofun, fun _ => ⟨_, _, _, _, _, rfl⟩⟩
      · obtain ⟨c, d, e, g, h, rfl⟩ := hW
        exact ⟨⟨⟩, q _⟩
end L3
namespace K_k04
open PySem PySem.Spec PyProof.Rows L2 L3
def topS (i : Nat) : Stmt := PySem.Challenge.pw_underone_k04_texts_of_no_askings.main.body.getD i (.Pass ⟨0, 0, 0, 0⟩)
abbrev s_law_take : Stmt := topS 16
theorem sc_law_take : FnScope N_law_take ["_law_deck_here", "_law_many"] (defScope s_law_take) := ⟨rfl, rfl, rfl, by decide +kernel, rfl, by decide +kernel, by decide +kernel⟩
abbrev s_law_far : Stmt := topS 17
theorem sc_law_far : FnScope N_law_far ["_law_deck_here"] (defScope s_law_far) := ⟨rfl, rfl, rfl, by decide +kernel, rfl, by decide +kernel, by decide +kernel⟩
abbrev s_law_below_1 : Stmt := topS 18
theorem sc_law_below_1 : FnScope N_law_below_1 ["_law_deck_here"] (defScope s_law_below_1) := ⟨rfl, rfl, rfl, by decide +kernel, rfl, by decide +kernel, by decide +kernel⟩
abbrev s_law_fraction_1 : Stmt := topS 19
theorem sc_law_fraction_1 : FnScope N_law_fraction_1 ["_law_deck_here"] (defScope s_law_fraction_1) := ⟨rfl, rfl, rfl, by decide +kernel, rfl, by decide +kernel, by decide +kernel⟩
abbrev s_law_asking_1 : Stmt := topS 20
theorem sc_law_asking_1 : FnScope N_law_asking_1 ["_law_deck_here"] (defScope s_law_asking_1) := ⟨rfl, rfl, rfl, by decide +kernel, rfl, by decide +kernel, by decide +kernel⟩
abbrev s_law_deck : Stmt := topS 15
theorem sc_law_deck : FnScope N_law_deck ["_law_script"] (defScope s_law_deck) := ⟨rfl, rfl, rfl, by decide +kernel, rfl, by decide +kernel, by decide +kernel⟩
abbrev s_law_number_in : Stmt := topS 25
theorem sc_law_number_in : FnScope N_law_number_in ["_law_word"] (defScope s_law_number_in) := ⟨rfl, rfl, rfl, by decide +kernel, rfl, by decide +kernel, by decide +kernel⟩
abbrev s_law_fraction_in : Stmt := topS 26
theorem sc_law_fraction_in : FnScope N_law_fraction_in ["_law_word"] (defScope s_law_fraction_in) := ⟨rfl, rfl, rfl, by decide +kernel, rfl, by decide +kernel, by decide +kernel⟩
abbrev s_law_reduced : Stmt := topS 21
theorem sc_law_reduced : FnScope N_law_reduced ["_law_above", "_law_below_here"] (defScope s_law_reduced) := ⟨rfl, rfl, rfl, by decide +kernel, rfl, by decide +kernel, by decide +kernel⟩
abbrev s_law_due_1 : Stmt := topS 27
theorem sc_law_due_1 : FnScope N_law_due_1 ["_law_text"] (defScope s_law_due_1) := ⟨rfl, rfl, rfl, by decide +kernel, rfl, by decide +kernel, by decide +kernel⟩
abbrev s_law_same_2 : Stmt := topS 24
theorem sc_law_same_2 : FnScope N_law_same_2 ["_law_found", "_law_due_here"] (defScope s_law_same_2) := ⟨rfl, rfl, rfl, by decide +kernel, rfl, by decide +kernel, by decide +kernel⟩
abbrev s_law_flags : Stmt := topS 23
theorem sc_law_flags : FnScope N_law_flags ["_law_thing"] (defScope s_law_flags) := ⟨rfl, rfl, rfl, by decide +kernel, rfl, by decide +kernel, by decide +kernel⟩
abbrev s_figures_read_x : Stmt := topS 11
theorem sc_figures_read_x : FnScope N_figures_read_x ["word"] (defScope s_figures_read_x) := ⟨rfl, rfl, rfl, by decide +kernel, rfl, by decide +kernel, by decide +kernel⟩
abbrev s_fraction_read_x : Stmt := topS 12
theorem sc_fraction_read_x : FnScope N_fraction_read_x ["word"] (defScope s_fraction_read_x) := ⟨rfl, rfl, rfl, by decide +kernel, rfl, by decide +kernel, by decide +kernel⟩
abbrev s_in_least : Stmt := topS 9
theorem sc_in_least : FnScope N_in_least ["above", "below"] (defScope s_in_least) := ⟨rfl, rfl, rfl, by decide +kernel, rfl, by decide +kernel, by decide +kernel⟩
abbrev s_need_asking_x : Stmt := topS 10
theorem sc_need_asking_x : FnScope N_need_asking_x ["asking"] (defScope s_need_asking_x) := ⟨rfl, rfl, rfl, by decide +kernel, rfl, by decide +kernel, by decide +kernel⟩
abbrev s_read_asking_x : Stmt := topS 13
theorem sc_read_asking_x : FnScope N_read_asking_x ["text"] (defScope s_read_asking_x) := ⟨rfl, rfl, rfl, by decide +kernel, rfl, by decide +kernel, by decide +kernel⟩
abbrev s_law_told_1 : Stmt := topS 28
theorem sc_law_told_1 : FnScope N_law_told_1 ["_law_text"] (defScope s_law_told_1) := ⟨rfl, rfl, rfl, by decide +kernel, rfl, by decide +kernel, by decide +kernel⟩
abbrev s_law_right_1 : Stmt := topS 29
theorem sc_law_right_1 : FnScope N_law_right_1 ["_law_text"] (defScope s_law_right_1) := ⟨rfl, rfl, rfl, by decide +kernel, rfl, by decide +kernel, by decide +kernel⟩
abbrev s_law_sign : Stmt := topS 30
theorem sc_law_sign : FnScope N_law_sign ["_law_deck_here"] (defScope s_law_sign) := ⟨rfl, rfl, rfl, by decide +kernel, rfl, by decide +kernel, by decide +kernel⟩
abbrev s_law_spoilt_1 : Stmt := topS 31
theorem sc_law_spoilt_1 : FnScope N_law_spoilt_1 ["_law_deck_here", "_law_text"] (defScope s_law_spoilt_1) := ⟨rfl, rfl, rfl, by decide +kernel, rfl, by decide +kernel, by decide +kernel⟩
abbrev s_law_4 : Stmt := topS 32
theorem sc_law_4 : FnScope N_law_4 ["_law_script"] (defScope s_law_4) := ⟨rfl, rfl, rfl, by decide +kernel, rfl, by decide +kernel, by decide +kernel⟩
section
variable {P : Program} {w : World} {K : PySem.W.Frag} {mg : Str → Option Value} {base : Heap}
theorem ok_law_take {f : Addr} {fd : FuncData} {k : Nat} (F : Fun K "_law_take" "_law_take" s_law_take f fd) (B_len : mg "len" = none) : FnOk P w K mg base CX0 (k + 1) f fd ["_law_deck_here", "_law_many"] (lift K sp_law_take) :=
  ok3 F sc_law_take (fun ts Q E h => by first | (obtain ⟨rfl, _⟩ := h; rfl) | (obtain ⟨_, rfl, _⟩ := h; rfl) | (obtain ⟨_, _, rfl, _⟩ := h; rfl) | (obtain ⟨_, _, _, rfl, _⟩ := h; rfl) | (obtain ⟨_, _, _, _, rfl, _⟩ := h; rfl) | (obtain ⟨_, _, _, _, _, rfl, _⟩ := h; rfl) | (obtain ⟨_, _, _, _, _, _, rfl, _⟩ := h; rfl) | (obtain ⟨_, _, _, _, _, _, _, rfl, _⟩ := h; rfl) | (obtain ⟨_, _, _, _, _, _, _, _, rfl, _⟩ := h; rfl) | (obtain ⟨_, _, _, _, _, _, _, _, _, rfl, _⟩ := h; rfl) | (obtain ⟨_, _, _, _, _, _, _, _, _, _, rfl, _⟩ := h; rfl) | (obtain ⟨_, _, _, _, _, _, _, _, _, _, _, rfl, _⟩ := h; rfl) | (obtain ⟨_, _, _, _, _, _, _, _, _, _, _, _, rfl, _⟩ := h; rfl) | (obtain ⟨_, _, _, _, _, _, _, _, _, _, _, _, _, rfl, _⟩ := h; rfl) | (obtain ⟨_, _, _, _, _, _, _, _, _, _, _, _, _, _, rfl, _⟩ := h; rfl) | (obtain ⟨_, _, _, _, _, _, _, _, _, _, _, _, _, _, _, rfl, _⟩ := h; rfl)) (fun cdv A outer s H E hr => ⟨body_law_take, (b3_cons (m3_set 2 (p3 (r3_mod (r3_ix (r3_name 0) r3_int) (r3_len (by rfl) B_len (r3_ix (r3_name 0) r3_int)))) sc_law_take.nd)
      (b3_cons (m3_asg (p3 (r3_add (r3_ix (r3_name 0) r3_int) r3_int)) (g3_sub 0 r3_int))
      (b3_cons (m3_set 3 (p3 (r3_ix (r3_ix (r3_name 0) r3_int) (r3_name 2))) sc_law_take.nd)
      (b3_cons (m3_if (t3_w (w3_or (t3_eqI (r3_name 3) r3_int) (w3_or1 (t3_eqI (r3_name 3) (r3_neg r3_int))))) (b3_cons (m3_set 4 (p3 (r3_mod (r3_mul (r3_mod (r3_add (r3_ix (r3_name 0) r3_int) (r3_mul r3_int (r3_ix (r3_name 0) r3_int))) r3_int) r3_int) r3_int)) sc_law_take.nd)
      (b3_cons (m3_set 4 (p3 (r3_mod (r3_mul (r3_mod (r3_add (r3_mul (r3_name 4) (r3_name 4)) (r3_mul r3_int (r3_ix (r3_name 0) r3_int))) r3_int) r3_int) r3_int)) sc_law_take.nd)
      (b3_one (m3_ret (p3 (r3_mod (r3_fdiv (r3_name 4) r3_int) (r3_name 1))))))) b3_nil)
      (b3_cons (m3_asg (p3 (r3_fdiv (r3_name 3) (r3_name 1))) (g3_sub2 0 r3_int (r3_name 2)))
      (b3_one (m3_ret (p3 (r3_mod (r3_name 3) (r3_name 1)))))))))), v_law_take⟩)
theorem ok_law_far {f : Addr} {fd : FuncData} {k : Nat} (F : Fun K "_law_far" "_law_far" s_law_far f fd) (B_range : mg "range" = none) (C_law_take : Cal P w K mg base "_law_take" k ["_law_deck_here", "_law_many"] sp_law_take) : FnOk P w K mg base CX0 (k + 1) f fd ["_law_deck_here"] (lift K sp_law_far) :=
  ok3 F sc_law_far (fun ts Q E h => by first | (obtain ⟨rfl, _⟩ := h; rfl) | (obtain ⟨_, rfl, _⟩ := h; rfl) | (obtain ⟨_, _, rfl, _⟩ := h; rfl) | (obtain ⟨_, _, _, rfl, _⟩ := h; rfl) | (obtain ⟨_, _, _, _, rfl, _⟩ := h; rfl) | (obtain ⟨_, _, _, _, _, rfl, _⟩ := h; rfl) | (obtain ⟨_, _, _, _, _, _, rfl, _⟩ := h; rfl) | (obtain ⟨_, _, _, _, _, _, _, rfl, _⟩ := h; rfl) | (obtain ⟨_, _, _, _, _, _, _, _, rfl, _⟩ := h; rfl) | (obtain ⟨_, _, _, _, _, _, _, _, _, rfl, _⟩ := h; rfl) | (obtain ⟨_, _, _, _, _, _, _, _, _, _, rfl, _⟩ := h; rfl) | (obtain ⟨_, _, _, _, _, _, _, _, _, _, _, rfl, _⟩ := h; rfl) | (obtain ⟨_, _, _, _, _, _, _, _, _, _, _, _, rfl, _⟩ := h; rfl) | (obtain ⟨_, _, _, _, _, _, _, _, _, _, _, _, _, rfl, _⟩ := h; rfl) | (obtain ⟨_, _, _, _, _, _, _, _, _, _, _, _, _, _, rfl, _⟩ := h; rfl) | (obtain ⟨_, _, _, _, _, _, _, _, _, _, _, _, _, _, _, rfl, _⟩ := h; rfl)) (fun cdv A outer s H E hr => ⟨body_law_far, (b3_cons (m3_set 1 (p3 r3_int) sc_law_far.nd)
      (b3_cons (m3_for PassesOwn.never rfl (i3_range1 (by rfl) B_range r3_int) (g3_name 2 sc_law_far.nd) (b3_one (m3_set 1 (p3 (r3_add (r3_mul (r3_name 1) (r3_pow r3_int r3_int)) (r3 (p3_cal C_law_take hr (by rfl) (c3_io 0 (c3_val (r3_pow r3_int r3_int) c3_nil)))))) sc_law_far.nd)))
      (b3_one (m3_ret (p3 (r3_add (r3_mul (r3_name 1) r3_int) (r3 (p3_cal C_law_take hr (by rfl) (c3_io 0 (c3_val r3_int c3_nil)))))))))), v_law_far⟩)
theorem ok_law_below_1 {f : Addr} {fd : FuncData} {k : Nat} (F : Fun K "_law_below" "_law_below" s_law_below_1 f fd) (C_law_far : Cal P w K mg base "_law_far" k ["_law_deck_here"] sp_law_far) (C_law_take : Cal P w K mg base "_law_take" k ["_law_deck_here", "_law_many"] sp_law_take) : FnOk P w K mg base CX0 (k + 1) f fd ["_law_deck_here"] (lift K sp_law_below_1) :=
  ok3 F sc_law_below_1 (fun ts Q E h => by first | (obtain ⟨rfl, _⟩ := h; rfl) | (obtain ⟨_, rfl, _⟩ := h; rfl) | (obtain ⟨_, _, rfl, _⟩ := h; rfl) | (obtain ⟨_, _, _, rfl, _⟩ := h; rfl) | (obtain ⟨_, _, _, _, rfl, _⟩ := h; rfl) | (obtain ⟨_, _, _, _, _, rfl, _⟩ := h; rfl) | (obtain ⟨_, _, _, _, _, _, rfl, _⟩ := h; rfl) | (obtain ⟨_, _, _, _, _, _, _, rfl, _⟩ := h; rfl) | (obtain ⟨_, _, _, _, _, _, _, _, rfl, _⟩ := h; rfl) | (obtain ⟨_, _, _, _, _, _, _, _, _, rfl, _⟩ := h; rfl) | (obtain ⟨_, _, _, _, _, _, _, _, _, _, rfl, _⟩ := h; rfl) | (obtain ⟨_, _, _, _, _, _, _, _, _, _, _, rfl, _⟩ := h; rfl) | (obtain ⟨_, _, _, _, _, _, _, _, _, _, _, _, rfl, _⟩ := h; rfl) | (obtain ⟨_, _, _, _, _, _, _, _, _, _, _, _, _, rfl, _⟩ := h; rfl) | (obtain ⟨_, _, _, _, _, _, _, _, _, _, _, _, _, _, rfl, _⟩ := h; rfl) | (obtain ⟨_, _, _, _, _, _, _, _, _, _, _, _, _, _, _, rfl, _⟩ := h; rfl)) (fun cdv A outer s H E hr => ⟨body_law_below_1, (b3_cons (m3_set 1 (p3_cal C_law_take hr (by rfl) (c3_io 0 (c3_val r3_int c3_nil))) sc_law_below_1.nd)
      (b3_cons (m3_if (t3_lt (r3_name 1) r3_int) (b3_one (m3_ret (p3 (r3_add r3_int (r3 (p3_cal C_law_take hr (by rfl) (c3_io 0 (c3_val (r3_ix (r3 (p3_lst (pa3_cons (p3 r3_int) (pa3_cons (p3 r3_int) (pa3_cons (p3 r3_int) (pa3_cons (p3 (r3_pow r3_int r3_int)) pa3_nil)))))) (r3_name 1)) c3_nil)))))))) b3_nil)
      (b3_one (m3_ret (p3 (r3_add r3_int (r3 (p3_cal C_law_far hr (by rfl) (c3_io 0 c3_nil))))))))), v_law_below_1⟩)
theorem ok_law_fraction_1 {f : Addr} {fd : FuncData} {k : Nat} (F : Fun K "_law_fraction" "_law_fraction" s_law_fraction_1 f fd) (C_law_below_1 : Cal P w K mg base "_law_below" k ["_law_deck_here"] sp_law_below_1) (C_law_far : Cal P w K mg base "_law_far" k ["_law_deck_here"] sp_law_far) (C_law_take : Cal P w K mg base "_law_take" k ["_law_deck_here", "_law_many"] sp_law_take) : FnOk P w K mg base CX0 (k + 1) f fd ["_law_deck_here"] (lift K sp_law_fraction_1) :=
  ok3 F sc_law_fraction_1 (fun ts Q E h => by first | (obtain ⟨rfl, _⟩ := h; rfl) | (obtain ⟨_, rfl, _⟩ := h; rfl) | (obtain ⟨_, _, rfl, _⟩ := h; rfl) | (obtain ⟨_, _, _, rfl, _⟩ := h; rfl) | (obtain ⟨_, _, _, _, rfl, _⟩ := h; rfl) | (obtain ⟨_, _, _, _, _, rfl, _⟩ := h; rfl) | (obtain ⟨_, _, _, _, _, _, rfl, _⟩ := h; rfl) | (obtain ⟨_, _, _, _, _, _, _, rfl, _⟩ := h; rfl) | (obtain ⟨_, _, _, _, _, _, _, _, rfl, _⟩ := h; rfl) | (obtain ⟨_, _, _, _, _, _, _, _, _, rfl, _⟩ := h; rfl) | (obtain ⟨_, _, _, _, _, _, _, _, _, _, rfl, _⟩ := h; rfl) | (obtain ⟨_, _, _, _, _, _, _, _, _, _, _, rfl, _⟩ := h; rfl) | (obtain ⟨_, _, _, _, _, _, _, _, _, _, _, _, rfl, _⟩ := h; rfl) | (obtain ⟨_, _, _, _, _, _, _, _, _, _, _, _, _, rfl, _⟩ := h; rfl) | (obtain ⟨_, _, _, _, _, _, _, _, _, _, _, _, _, _, rfl, _⟩ := h; rfl) | (obtain ⟨_, _, _, _, _, _, _, _, _, _, _, _, _, _, _, rfl, _⟩ := h; rfl)) (fun cdv A outer s H E hr => ⟨body_law_fraction_1, (b3_cons (m3_set 1 (p3_cal C_law_below_1 hr (by rfl) (c3_io 0 c3_nil)) sc_law_fraction_1.nd)
      (b3_cons (m3_set 2 (p3_cal C_law_take hr (by rfl) (c3_io 0 (c3_val r3_int c3_nil))) sc_law_fraction_1.nd)
      (b3_cons (m3_if (t3_eqI (r3_name 2) r3_int) (b3_one (m3_set 3 (p3_cal C_law_far hr (by rfl) (c3_io 0 c3_nil)) sc_law_fraction_1.nd)) (b3_one (m3_if (t3_eqI (r3_name 2) r3_int) (b3_one (m3_set 3 (p3 (r3_mod (r3 (p3_cal C_law_far hr (by rfl) (c3_io 0 c3_nil))) (r3_name 1))) sc_law_fraction_1.nd)) (b3_one (m3_if (t3_eqI (r3_name 2) r3_int) (b3_cons (m3_set 4 (p3 (r3_add r3_int (r3 (p3_cal C_law_take hr (by rfl) (c3_io 0 (c3_val r3_int c3_nil)))))) sc_law_fraction_1.nd)
      (b3_one (m3_set 3 (p3 (r3_sub (r3_add (r3_fdiv (r3_mul (r3_name 1) (r3 (p3_cal C_law_take hr (by rfl) (c3_io 0 (c3_val (r3_add (r3_name 4) r3_int) c3_nil))))) (r3_name 4)) (r3 (p3_cal C_law_take hr (by rfl) (c3_io 0 (c3_val r3_int c3_nil))))) r3_int)) sc_law_fraction_1.nd))) (b3_one (m3_set 3 (p3 (r3_sub (r3_add (r3_fdiv (r3_name 1) r3_int) (r3 (p3_cal C_law_take hr (by rfl) (c3_io 0 (c3_val r3_int c3_nil))))) r3_int)) sc_law_fraction_1.nd)))))))
      (b3_cons (m3_set 5 (p3 (r3_ix (r3 (p3_lst (pa3_cons (p3 r3_int) (pa3_cons (p3 r3_int) (pa3_cons (p3 (r3_add r3_int (r3 (p3_cal C_law_take hr (by rfl) (c3_io 0 (c3_val r3_int c3_nil)))))) pa3_nil))))) (r3 (p3_cal C_law_take hr (by rfl) (c3_io 0 (c3_val r3_int c3_nil)))))) sc_law_fraction_1.nd)
      (b3_one (m3_ret (p3_tup (pa3_cons (p3 (r3_mul (r3_mul (r3_name 3) (r3_name 5)) (r3_ix (r3 (p3_lst (pa3_cons (p3 r3_int) (pa3_cons (p3 (r3_neg r3_int)) pa3_nil)))) (r3 (p3_cal C_law_take hr (by rfl) (c3_io 0 (c3_val r3_int c3_nil))))))) (pa3_cons (p3 (r3_mul (r3_name 1) (r3_name 5))) pa3_nil))))))))), v_law_fraction_1⟩)
theorem ok_law_asking_1 {f : Addr} {fd : FuncData} {k : Nat} (F : Fun K "_law_asking" "_law_asking" s_law_asking_1 f fd) (B_len : mg "len" = none) (B_range : mg "range" = none) (B_tuple : mg "tuple" = none) (C_law_fraction_1 : Cal P w K mg base "_law_fraction" k ["_law_deck_here"] sp_law_fraction_1) (C_law_take : Cal P w K mg base "_law_take" k ["_law_deck_here", "_law_many"] sp_law_take) : FnOk P w K mg base CX0 (k + 1) f fd ["_law_deck_here"] (lift K sp_law_asking_1) :=
  ok3 F sc_law_asking_1 (fun ts Q E h => by first | (obtain ⟨rfl, _⟩ := h; rfl) | (obtain ⟨_, rfl, _⟩ := h; rfl) | (obtain ⟨_, _, rfl, _⟩ := h; rfl) | (obtain ⟨_, _, _, rfl, _⟩ := h; rfl) | (obtain ⟨_, _, _, _, rfl, _⟩ := h; rfl) | (obtain ⟨_, _, _, _, _, rfl, _⟩ := h; rfl) | (obtain ⟨_, _, _, _, _, _, rfl, _⟩ := h; rfl) | (obtain ⟨_, _, _, _, _, _, _, rfl, _⟩ := h; rfl) | (obtain ⟨_, _, _, _, _, _, _, _, rfl, _⟩ := h; rfl) | (obtain ⟨_, _, _, _, _, _, _, _, _, rfl, _⟩ := h; rfl) | (obtain ⟨_, _, _, _, _, _, _, _, _, _, rfl, _⟩ := h; rfl) | (obtain ⟨_, _, _, _, _, _, _, _, _, _, _, rfl, _⟩ := h; rfl) | (obtain ⟨_, _, _, _, _, _, _, _, _, _, _, _, rfl, _⟩ := h; rfl) | (obtain ⟨_, _, _, _, _, _, _, _, _, _, _, _, _, rfl, _⟩ := h; rfl) | (obtain ⟨_, _, _, _, _, _, _, _, _, _, _, _, _, _, rfl, _⟩ := h; rfl) | (obtain ⟨_, _, _, _, _, _, _, _, _, _, _, _, _, _, _, rfl, _⟩ := h; rfl)) (fun cdv A outer s H E hr => ⟨body_law_asking_1, (b3_cons (m3_setLc 1 (own := [("_law_k", 2)]) (js := [2]) rfl sc_law_asking_1.nd (i3_range1 (by rfl) B_range (r3_add r3_int (r3 (p3_cal C_law_take hr (by rfl) (c3_io 0 (c3_val r3_int c3_nil)))))) (blkOk_by (N := N_law_asking_1) (sc := defScope s_law_asking_1) (by decide +kernel)) (by decide) (fun _ _ _ _ _ => (g3_name 2 sc_law_asking_1.nd)) (fun _ _ _ _ _ => ts3_nil) (fun _ _ _ _ _ => (p3_cal C_law_fraction_1 hr (by rfl) (c3_io 0 c3_nil))))
      (b3_cons (m3_if (t3_w (w3_and (t3_gt (r3_len (by rfl) B_len (r3_name 1)) r3_int) (w3_and1 (t3_eqI (r3 (p3_cal C_law_take hr (by rfl) (c3_io 0 (c3_val r3_int c3_nil)))) r3_int)))) (b3_one (m3_asg (p3_tup (pa3_cons (p3 (r3_sub (r3 (p3_cal C_law_take hr (by rfl) (c3_io 0 (c3_val (r3_pow r3_int r3_int) c3_nil)))) (r3 (p3_cal C_law_take hr (by rfl) (c3_io 0 (c3_val (r3_pow r3_int r3_int) c3_nil)))))) (pa3_cons (p3 (r3_ix (r3_ix (r3_name 1) r3_int) r3_int)) pa3_nil))) (g3_sub 1 r3_int))) b3_nil)
      (b3_one (m3_ret (p3 (r3_tuple (by rfl) B_tuple (r3_name 1))))))), v_law_asking_1⟩)
theorem ok_law_deck {f : Addr} {fd : FuncData} {k : Nat} (F : Fun K "_law_deck" "_law_deck" s_law_deck f fd) (B_len : mg "len" = none) (B_range : mg "range" = none) (B_sum : mg "sum" = none) : FnOk P w K mg base CX0 (k + 1) f fd ["_law_script"] (lift K sp_law_deck) :=
  ok3 F sc_law_deck (fun ts Q E h => by first | (obtain ⟨rfl, _⟩ := h; rfl) | (obtain ⟨_, rfl, _⟩ := h; rfl) | (obtain ⟨_, _, rfl, _⟩ := h; rfl) | (obtain ⟨_, _, _, rfl, _⟩ := h; rfl) | (obtain ⟨_, _, _, _, rfl, _⟩ := h; rfl) | (obtain ⟨_, _, _, _, _, rfl, _⟩ := h; rfl) | (obtain ⟨_, _, _, _, _, _, rfl, _⟩ := h; rfl) | (obtain ⟨_, _, _, _, _, _, _, rfl, _⟩ := h; rfl) | (obtain ⟨_, _, _, _, _, _, _, _, rfl, _⟩ := h; rfl) | (obtain ⟨_, _, _, _, _, _, _, _, _, rfl, _⟩ := h; rfl) | (obtain ⟨_, _, _, _, _, _, _, _, _, _, rfl, _⟩ := h; rfl) | (obtain ⟨_, _, _, _, _, _, _, _, _, _, _, rfl, _⟩ := h; rfl) | (obtain ⟨_, _, _, _, _, _, _, _, _, _, _, _, rfl, _⟩ := h; rfl) | (obtain ⟨_, _, _, _, _, _, _, _, _, _, _, _, _, rfl, _⟩ := h; rfl) | (obtain ⟨_, _, _, _, _, _, _, _, _, _, _, _, _, _, rfl, _⟩ := h; rfl) | (obtain ⟨_, _, _, _, _, _, _, _, _, _, _, _, _, _, _, rfl, _⟩ := h; rfl)) (fun cdv A outer s H E hr => ⟨body_law_deck, (b3_cons (m3_set 1 (p3_add (r3 (p3_sl (r3_name 0) po3_none (po3_some r3_int))) (r3 (p3_lst (pa3_cons (p3 (r3_len (by rfl) B_len (r3_name 0))) pa3_nil)))) sc_law_deck.nd)
      (b3_cons (m3_set 2 (p3 (r3_mod (r3_add (r3_add (r3_mul (r3_sum rfl (by rfl) B_sum (r3 (p3_sl (r3_name 0) po3_none (po3_some r3_int)))) r3_int) (r3_mul r3_int (r3_len (by rfl) B_len (r3_name 0)))) r3_int) r3_int)) sc_law_deck.nd)
      (b3_cons (m3_if (t3_eqI (r3_mod (r3_sum rfl (by rfl) B_sum (r3 (p3_sl (r3_name 0) po3_none (po3_some r3_int)))) r3_int) r3_int) (b3_one (m3_for PassesOwn.never rfl (i3_range1 (by rfl) B_range (r3_len (by rfl) B_len (r3_name 1))) (g3_name 3 sc_law_deck.nd) (b3_cons (m3_set 4 (p3 (r3_mod (r3_mul (r3_add (r3_add (r3_mod (r3_ix (r3_name 1) (r3_name 3)) r3_int) (r3_mul r3_int (r3_name 3))) r3_int) r3_int) r3_int)) sc_law_deck.nd)
      (b3_cons (m3_set 4 (p3 (r3_mod (r3_mul (r3_mod (r3_add (r3_mul (r3_name 4) (r3_name 4)) (r3_mul r3_int (r3_name 3))) r3_int) r3_int) r3_int)) sc_law_deck.nd)
      (b3_one (m3_asg (p3 (r3_add (r3_mul (r3_mul (r3_name 4) (r3_name 4)) r3_int) (r3_mod (r3_mul (r3_name 4) r3_int) r3_int))) (g3_sub 1 (r3_name 3)))))))) b3_nil)
      (b3_one (m3_ret (p3_lst (pa3_cons (p3_move 1) (pa3_cons (p3 r3_int) (pa3_cons (p3_move 2) pa3_nil))))))))), v_law_deck⟩)
theorem ok_law_number_in {f : Addr} {fd : FuncData} {k : Nat} (F : Fun K "_law_number_in" "_law_number_in" s_law_number_in f fd) (B_int : mg "int" = none) : FnOk P w K mg base CX0 (k + 1) f fd ["_law_word"] (lift K sp_law_number_in) :=
  ok3 F sc_law_number_in (fun ts Q E h => by first | (obtain ⟨rfl, _⟩ := h; rfl) | (obtain ⟨_, rfl, _⟩ := h; rfl) | (obtain ⟨_, _, rfl, _⟩ := h; rfl) | (obtain ⟨_, _, _, rfl, _⟩ := h; rfl) | (obtain ⟨_, _, _, _, rfl, _⟩ := h; rfl) | (obtain ⟨_, _, _, _, _, rfl, _⟩ := h; rfl) | (obtain ⟨_, _, _, _, _, _, rfl, _⟩ := h; rfl) | (obtain ⟨_, _, _, _, _, _, _, rfl, _⟩ := h; rfl) | (obtain ⟨_, _, _, _, _, _, _, _, rfl, _⟩ := h; rfl) | (obtain ⟨_, _, _, _, _, _, _, _, _, rfl, _⟩ := h; rfl) | (obtain ⟨_, _, _, _, _, _, _, _, _, _, rfl, _⟩ := h; rfl) | (obtain ⟨_, _, _, _, _, _, _, _, _, _, _, rfl, _⟩ := h; rfl) | (obtain ⟨_, _, _, _, _, _, _, _, _, _, _, _, rfl, _⟩ := h; rfl) | (obtain ⟨_, _, _, _, _, _, _, _, _, _, _, _, _, rfl, _⟩ := h; rfl) | (obtain ⟨_, _, _, _, _, _, _, _, _, _, _, _, _, _, rfl, _⟩ := h; rfl) | (obtain ⟨_, _, _, _, _, _, _, _, _, _, _, _, _, _, _, rfl, _⟩ := h; rfl)) (fun cdv A outer s H E hr => ⟨body_law_number_in, (b3_cons (m3_if (t3_w (w3_or (t3_eq hr.units (r3_name 0) r3_str) (w3_or1 (t3_ne hr.units (r3 (p3_lc (own := [("_law_sign_here", 1)]) (js := [1]) rfl sc_law_number_in.nd (i3_str (r3_name 0)) (blkOk_by (N := N_law_number_in) (sc := defScope s_law_number_in) (by decide +kernel)) (by decide) (fun _ _ _ _ _ => (g3_name 1 sc_law_number_in.nd)) (fun _ _ _ _ _ => (ts3_one (t3_notinS (r3_name 1) r3_str))) (fun _ _ _ _ _ => (p3_move 1)))) (r3 (p3_lst pa3_nil)))))) (b3_one (m3_ret (p3 r3_none))) b3_nil)
      (b3_cons (m3_if (t3_w (w3_and (t3_eq hr.units (r3_ix (r3_name 0) r3_int) r3_str) (w3_and1 (t3_ne hr.units (r3_name 0) r3_str)))) (b3_one (m3_ret (p3 r3_none))) b3_nil)
      (b3_one (m3_ret (p3 (r3_int_ (by rfl) B_int (r3_name 0))))))), v_law_number_in⟩)
theorem ok_law_fraction_in {f : Addr} {fd : FuncData} {k : Nat} (F : Fun K "_law_fraction_in" "_law_fraction_in" s_law_fraction_in f fd) (B_int : mg "int" = none) (C_law_number_in : Cal P w K mg base "_law_number_in" k ["_law_word"] sp_law_number_in) : FnOk P w K mg base CX0 (k + 1) f fd ["_law_word"] (lift K sp_law_fraction_in) :=
  ok3 F sc_law_fraction_in (fun ts Q E h => by first | (obtain ⟨rfl, _⟩ := h; rfl) | (obtain ⟨_, rfl, _⟩ := h; rfl) | (obtain ⟨_, _, rfl, _⟩ := h; rfl) | (obtain ⟨_, _, _, rfl, _⟩ := h; rfl) | (obtain ⟨_, _, _, _, rfl, _⟩ := h; rfl) | (obtain ⟨_, _, _, _, _, rfl, _⟩ := h; rfl) | (obtain ⟨_, _, _, _, _, _, rfl, _⟩ := h; rfl) | (obtain ⟨_, _, _, _, _, _, _, rfl, _⟩ := h; rfl) | (obtain ⟨_, _, _, _, _, _, _, _, rfl, _⟩ := h; rfl) | (obtain ⟨_, _, _, _, _, _, _, _, _, rfl, _⟩ := h; rfl) | (obtain ⟨_, _, _, _, _, _, _, _, _, _, rfl, _⟩ := h; rfl) | (obtain ⟨_, _, _, _, _, _, _, _, _, _, _, rfl, _⟩ := h; rfl) | (obtain ⟨_, _, _, _, _, _, _, _, _, _, _, _, rfl, _⟩ := h; rfl) | (obtain ⟨_, _, _, _, _, _, _, _, _, _, _, _, _, rfl, _⟩ := h; rfl) | (obtain ⟨_, _, _, _, _, _, _, _, _, _, _, _, _, _, rfl, _⟩ := h; rfl) | (obtain ⟨_, _, _, _, _, _, _, _, _, _, _, _, _, _, _, rfl, _⟩ := h; rfl)) (fun cdv A outer s H E hr => ⟨body_law_fraction_in, (b3_cons (m3_if (t3_neI (r3_countS (r3_name 0) r3_str) r3_int) (b3_one (m3_ret (p3 r3_none))) b3_nil)
      (b3_cons (m3_asg (p3_split (r3_name 0) r3_str) (g3_tupL (n := 2) rfl (gs3_cons (g3_name 1 sc_law_fraction_in.nd) (gs3_cons (g3_name 2 sc_law_fraction_in.nd) gs3_nil))))
      (b3_cons (m3_set 3 (p3_cal C_law_number_in hr (by rfl) (c3_val (r3_name 1) c3_nil)) sc_law_fraction_in.nd)
      (b3_cons (m3_if (t3_eq hr.units (r3 (p3_sl (r3_name 1) po3_none (po3_some r3_int))) r3_str) (b3_cons (m3_set 3 (p3_cal C_law_number_in hr (by rfl) (c3_val (r3 (p3_sl (r3_name 1) (po3_some r3_int) po3_none)) c3_nil)) sc_law_fraction_in.nd)
      (b3_one (m3_if (t3_notN (r3_name 3) r3_none) (b3_one (m3_set 3 (p3 (r3_ix (r3 (p3_lst (pa3_cons (p3 r3_none) (pa3_cons (p3 (r3_sub r3_int (r3_name 3))) pa3_nil)))) (r3_int_ (by rfl) B_int (r3_gt (r3_name 3) r3_int)))) sc_law_fraction_in.nd)) b3_nil))) b3_nil)
      (b3_cons (m3_set 4 (p3_cal C_law_number_in hr (by rfl) (c3_val (r3_name 2) c3_nil)) sc_law_fraction_in.nd)
      (b3_cons (m3_if (t3_w (w3_or (t3_isN (r3_name 3) r3_none) (w3_or1 (t3_isN (r3_name 4) r3_none)))) (b3_one (m3_ret (p3 r3_none))) b3_nil)
      (b3_one (m3_ret (p3_tup (pa3_cons (p3_move 3) (pa3_cons (p3_move 4) pa3_nil))))))))))), v_law_fraction_in⟩)
theorem ok_law_reduced {f : Addr} {fd : FuncData} {k : Nat} (F : Fun K "_law_reduced" "_law_reduced" s_law_reduced f fd) (B_abs : mg "abs" = none) : FnOk P w K mg base CX0 (k + 1) f fd ["_law_above", "_law_below_here"] (lift K sp_law_reduced) :=
  ok3 F sc_law_reduced (fun ts Q E h => by first | (obtain ⟨rfl, _⟩ := h; rfl) | (obtain ⟨_, rfl, _⟩ := h; rfl) | (obtain ⟨_, _, rfl, _⟩ := h; rfl) | (obtain ⟨_, _, _, rfl, _⟩ := h; rfl) | (obtain ⟨_, _, _, _, rfl, _⟩ := h; rfl) | (obtain ⟨_, _, _, _, _, rfl, _⟩ := h; rfl) | (obtain ⟨_, _, _, _, _, _, rfl, _⟩ := h; rfl) | (obtain ⟨_, _, _, _, _, _, _, rfl, _⟩ := h; rfl) | (obtain ⟨_, _, _, _, _, _, _, _, rfl, _⟩ := h; rfl) | (obtain ⟨_, _, _, _, _, _, _, _, _, rfl, _⟩ := h; rfl) | (obtain ⟨_, _, _, _, _, _, _, _, _, _, rfl, _⟩ := h; rfl) | (obtain ⟨_, _, _, _, _, _, _, _, _, _, _, rfl, _⟩ := h; rfl) | (obtain ⟨_, _, _, _, _, _, _, _, _, _, _, _, rfl, _⟩ := h; rfl) | (obtain ⟨_, _, _, _, _, _, _, _, _, _, _, _, _, rfl, _⟩ := h; rfl) | (obtain ⟨_, _, _, _, _, _, _, _, _, _, _, _, _, _, rfl, _⟩ := h; rfl) | (obtain ⟨_, _, _, _, _, _, _, _, _, _, _, _, _, _, _, rfl, _⟩ := h; rfl)) (fun cdv A outer s H E hr => ⟨body_law_reduced, (b3_cons (m3_par 2 3 rfl (pa3_cons (p3 (r3_abs (by rfl) B_abs (r3_name 0))) (pa3_cons (p3_move 1) pa3_nil)) sc_law_reduced.nd)
      (b3_cons (m3_while PassesOwn.never (t3_gt (r3_name 3) r3_int) (b3_one (m3_par 2 3 rfl (pa3_cons (p3_move 3) (pa3_cons (p3 (r3_mod (r3_name 2) (r3_name 3))) pa3_nil)) sc_law_reduced.nd)))
      (b3_one (m3_ret (p3_tup (pa3_cons (p3 (r3_fdiv (r3_name 0) (r3_name 2))) (pa3_cons (p3 (r3_fdiv (r3_name 1) (r3_name 2))) pa3_nil))))))), v_law_reduced⟩)
theorem ok_law_due_1 {f : Addr} {fd : FuncData} {k : Nat} (F : Fun K "_law_due" "_law_due" s_law_due_1 f fd) (B_tuple : mg "tuple" = none) (C_law_fraction_in : Cal P w K mg base "_law_fraction_in" k ["_law_word"] sp_law_fraction_in) (C_law_reduced : Cal P w K mg base "_law_reduced" k ["_law_above", "_law_below_here"] sp_law_reduced) : FnOk P w K mg base CX0 (k + 1) f fd ["_law_text"] (lift K sp_law_due_1) :=
  ok3 F sc_law_due_1 (fun ts Q E h => by first | (obtain ⟨rfl, _⟩ := h; rfl) | (obtain ⟨_, rfl, _⟩ := h; rfl) | (obtain ⟨_, _, rfl, _⟩ := h; rfl) | (obtain ⟨_, _, _, rfl, _⟩ := h; rfl) | (obtain ⟨_, _, _, _, rfl, _⟩ := h; rfl) | (obtain ⟨_, _, _, _, _, rfl, _⟩ := h; rfl) | (obtain ⟨_, _, _, _, _, _, rfl, _⟩ := h; rfl) | (obtain ⟨_, _, _, _, _, _, _, rfl, _⟩ := h; rfl) | (obtain ⟨_, _, _, _, _, _, _, _, rfl, _⟩ := h; rfl) | (obtain ⟨_, _, _, _, _, _, _, _, _, rfl, _⟩ := h; rfl) | (obtain ⟨_, _, _, _, _, _, _, _, _, _, rfl, _⟩ := h; rfl) | (obtain ⟨_, _, _, _, _, _, _, _, _, _, _, rfl, _⟩ := h; rfl) | (obtain ⟨_, _, _, _, _, _, _, _, _, _, _, _, rfl, _⟩ := h; rfl) | (obtain ⟨_, _, _, _, _, _, _, _, _, _, _, _, _, rfl, _⟩ := h; rfl) | (obtain ⟨_, _, _, _, _, _, _, _, _, _, _, _, _, _, rfl, _⟩ := h; rfl) | (obtain ⟨_, _, _, _, _, _, _, _, _, _, _, _, _, _, _, rfl, _⟩ := h; rfl)) (fun cdv A outer s H E hr => ⟨body_law_due_1, (b3_cons (m3_if (t3_eq hr.units (r3_name 0) r3_str) (b3_one (m3_ret (p3_tup (pa3_cons (p3 r3_none) (pa3_cons (p3 r3_str) pa3_nil))))) b3_nil)
      (b3_cons (m3_setLc 1 (own := [("_law_word", 2)]) (js := [2]) rfl sc_law_due_1.nd (i3_seq (r3 (p3_split (r3_name 0) r3_str))) (blkOk_by (N := N_law_due_1) (sc := defScope s_law_due_1) (by decide +kernel)) (by decide) (fun _ _ _ _ _ => (g3_name 2 sc_law_due_1.nd)) (fun _ _ _ _ _ => ts3_nil) (fun _ _ _ _ _ => (p3_cal C_law_fraction_in hr (by rfl) (c3_val (r3_name 2) c3_nil))))
      (b3_fz 1 (b3_cons (m3_if (t3_inD hr.units r3_none (r3_name 1)) (b3_one (m3_ret (p3_tup (pa3_cons (p3 r3_none) (pa3_cons (p3 r3_str) pa3_nil))))) b3_nil)
      (b3_cons (m3_if (t3_ne hr.units (r3 (p3_lc (own := [("_law_one", 3)]) (js := [3]) rfl sc_law_due_1.nd (i3_seq (r3_name 1)) (blkOk_by (N := N_law_due_1) (sc := defScope s_law_due_1) (by decide +kernel)) (by decide) (fun _ _ _ _ _ => (g3_name 3 sc_law_due_1.nd)) (fun _ _ _ _ _ => (ts3_one (t3_eqI (r3_ix (r3_name 3) r3_int) r3_int))) (fun _ _ _ _ _ => (p3_move 3)))) (r3 (p3_lst pa3_nil))) (b3_one (m3_ret (p3_tup (pa3_cons (p3 r3_none) (pa3_cons (p3 r3_str) pa3_nil))))) b3_nil)
      (b3_one (m3_ret (p3_tup (pa3_cons (p3 (r3_tuple (by rfl) B_tuple (r3 (p3_lc (own := [("_law_above", 4), ("_law_below_here", 5)]) (js := [4, 5]) rfl sc_law_due_1.nd (i3_seq (r3_name 1)) (blkOk_by (N := N_law_due_1) (sc := defScope s_law_due_1) (by decide +kernel)) (by decide) (fun _ _ _ _ _ => (g3_tup (n := 2) rfl (gs3_cons (g3_name 4 sc_law_due_1.nd) (gs3_cons (g3_name 5 sc_law_due_1.nd) gs3_nil)))) (fun _ _ _ _ _ => ts3_nil) (fun _ _ _ _ _ => (p3_cal C_law_reduced hr (by rfl) (c3_val (r3_name 4) (c3_val (r3_name 5) c3_nil)))))))) (pa3_cons (p3 r3_str) pa3_nil)))))))))), v_law_due_1⟩)
theorem ok_law_same_2 {f : Addr} {fd : FuncData} {k : Nat} (n : Nat) (F : Fun K "_law_same" "_law_same" s_law_same_2 f fd) (B_bool : mg "bool" = none) (B_int : mg "int" = none) (B_isinstance : mg "isinstance" = none) (B_len : mg "len" = none) (B_list : mg "list" = none) (B_str : mg "str" = none) (B_tuple : mg "tuple" = none) (B_zip : mg "zip" = none) (C_law_same_2 : Cal P w K mg base "_law_same" k ["_law_found", "_law_due_here"] (sp_law_same_2 n)) : FnOk P w K mg base CX0 (k + 1) f fd ["_law_found", "_law_due_here"] (lift K (sp_law_same_2 (n + 1))) :=
  ok3 F sc_law_same_2 (fun ts Q E h => by first | (obtain ⟨rfl, _⟩ := h; rfl) | (obtain ⟨_, rfl, _⟩ := h; rfl) | (obtain ⟨_, _, rfl, _⟩ := h; rfl) | (obtain ⟨_, _, _, rfl, _⟩ := h; rfl) | (obtain ⟨_, _, _, _, rfl, _⟩ := h; rfl) | (obtain ⟨_, _, _, _, _, rfl, _⟩ := h; rfl) | (obtain ⟨_, _, _, _, _, _, rfl, _⟩ := h; rfl) | (obtain ⟨_, _, _, _, _, _, _, rfl, _⟩ := h; rfl) | (obtain ⟨_, _, _, _, _, _, _, _, rfl, _⟩ := h; rfl) | (obtain ⟨_, _, _, _, _, _, _, _, _, rfl, _⟩ := h; rfl) | (obtain ⟨_, _, _, _, _, _, _, _, _, _, rfl, _⟩ := h; rfl) | (obtain ⟨_, _, _, _, _, _, _, _, _, _, _, rfl, _⟩ := h; rfl) | (obtain ⟨_, _, _, _, _, _, _, _, _, _, _, _, rfl, _⟩ := h; rfl) | (obtain ⟨_, _, _, _, _, _, _, _, _, _, _, _, _, rfl, _⟩ := h; rfl) | (obtain ⟨_, _, _, _, _, _, _, _, _, _, _, _, _, _, rfl, _⟩ := h; rfl) | (obtain ⟨_, _, _, _, _, _, _, _, _, _, _, _, _, _, _, rfl, _⟩ := h; rfl)) (fun cdv A outer s H E hr => ⟨body_law_same_2 (sp_law_same_2 n), (b3_cons (m3_if (t3_val (r3_isi2 (b := "tuple") (c := "list") (by rfl) B_isinstance (by rfl) B_tuple (by rfl) (by rfl) B_list (by rfl) (by decide +kernel) (r3_name 1))) (b3_cons (m3_if (t3_w (w3_or (t3_ne hr.units (r3_isi (b := "tuple") (by rfl) B_isinstance (by rfl) B_tuple (by rfl) (by decide +kernel) (r3_name 0)) (r3_isi (b := "tuple") (by rfl) B_isinstance (by rfl) B_tuple (by rfl) (by decide +kernel) (r3_name 1))) (w3_or1 (t3_ne hr.units (r3_isi (b := "list") (by rfl) B_isinstance (by rfl) B_list (by rfl) (by decide +kernel) (r3_name 0)) (r3_isi (b := "list") (by rfl) B_isinstance (by rfl) B_list (by rfl) (by decide +kernel) (r3_name 1)))))) (b3_one (m3_ret (p3 r3_bool))) b3_nil)
      (b3_cons (m3_if (t3_neI (r3_len (by rfl) B_len (r3_name 0)) (r3_len (by rfl) B_len (r3_name 1))) (b3_one (m3_ret (p3 r3_bool))) b3_nil)
      (b3_one (m3_ret (p3 (r3_eq hr.units (r3 (p3_lc (own := [("_law_one", 2), ("_law_other", 3)]) (js := [2, 3]) rfl sc_law_same_2.nd (i3_zip (by rfl) B_zip (r3_name 0) (r3_name 1)) (blkOk_by (N := N_law_same_2) (sc := defScope s_law_same_2) (by decide +kernel)) (by decide) (fun _ _ _ _ _ => (g3_tup (n := 2) rfl (gs3_cons (g3_name 2 sc_law_same_2.nd) (gs3_cons (g3_name 3 sc_law_same_2.nd) gs3_nil)))) (fun _ _ _ _ _ => (ts3_one (t3_not (t3_val (r3 (p3_cal C_law_same_2 hr (by rfl) (c3_val (r3_name 2) (c3_val (r3_name 3) c3_nil)))))))) (fun _ _ _ _ _ => (p3 r3_int)))) (r3 (p3_lst pa3_nil)))))))) b3_nil)
      (b3_cons (m3_if (t3_w (w3_or (t3_isN (r3_name 1) r3_none) (w3_or1 (t3_val (r3_isi (b := "str") (by rfl) B_isinstance (by rfl) B_str (by rfl) (by decide +kernel) (r3_name 1)))))) (b3_one (m3_ret (p3 (r3_and (r3_eq hr.units (r3_name 0) (r3_name 1)) (r3_one (r3_eq hr.units (r3_isi (b := "str") (by rfl) B_isinstance (by rfl) B_str (by rfl) (by decide +kernel) (r3_name 0)) (r3_isi (b := "str") (by rfl) B_isinstance (by rfl) B_str (by rfl) (by decide +kernel) (r3_name 1)))))))) b3_nil)
      (b3_one (m3_ret (p3 (r3_and (r3_isi (b := "int") (by rfl) B_isinstance (by rfl) B_int (by rfl) (by decide +kernel) (r3_name 0)) (r3_and (r3_not (r3_isi (b := "bool") (by rfl) B_isinstance (by rfl) B_bool (by rfl) (by decide +kernel) (r3_name 0))) (r3_one (r3_eq hr.units (r3_name 0) (r3_name 1)))))))))), v_law_same_2 n⟩)
theorem okn_law_same_2 {f : Addr} {fd : FuncData} {k : Nat} (F : Fun K "_law_same" "_law_same" s_law_same_2 f fd) (hm : mg "_law_same" = some (.ref f)) (hk : PySem.W.keepIn K (.ref f) = true) (hb : Binds K fd ["_law_found", "_law_due_here"] []) (B_bool : mg "bool" = none) (B_int : mg "int" = none) (B_isinstance : mg "isinstance" = none) (B_len : mg "len" = none) (B_list : mg "list" = none) (B_str : mg "str" = none) (B_tuple : mg "tuple" = none) (B_zip : mg "zip" = none) (z0 : ∀ ts Q E, sp_law_same_2 0 ts Q E → False) : ∀ n, FnOk P w K mg base CX0 (k + n + 1) f fd ["_law_found", "_law_due_here"] (lift K (sp_law_same_2 n))
  | 0 => ok0 F sc_law_same_2 z0
  | n + 1 => ok_law_same_2 n F B_bool B_int B_isinstance B_len B_list B_str B_tuple B_zip ⟨f, fd, okn_law_same_2 F hm hk hb B_bool B_int B_isinstance B_len B_list B_str B_tuple B_zip z0 n, hm, hk, hb⟩
theorem ok_law_flags {f : Addr} {fd : FuncData} {k : Nat} (F : Fun K "_law_flags" "_law_flags" s_law_flags f fd) (B_isinstance : mg "isinstance" = none) (ER : ErrOk K mg) : FnOk P w K mg base CX0 (k + 1) f fd ["_law_thing"] (lift K (sp_law_flags (cOf mg))) :=
  ok3 F sc_law_flags (fun ts Q E h => by first | (obtain ⟨rfl, _⟩ := h; rfl) | (obtain ⟨_, rfl, _⟩ := h; rfl) | (obtain ⟨_, _, rfl, _⟩ := h; rfl) | (obtain ⟨_, _, _, rfl, _⟩ := h; rfl) | (obtain ⟨_, _, _, _, rfl, _⟩ := h; rfl) | (obtain ⟨_, _, _, _, _, rfl, _⟩ := h; rfl) | (obtain ⟨_, _, _, _, _, _, rfl, _⟩ := h; rfl) | (obtain ⟨_, _, _, _, _, _, _, rfl, _⟩ := h; rfl) | (obtain ⟨_, _, _, _, _, _, _, _, rfl, _⟩ := h; rfl) | (obtain ⟨_, _, _, _, _, _, _, _, _, rfl, _⟩ := h; rfl) | (obtain ⟨_, _, _, _, _, _, _, _, _, _, rfl, _⟩ := h; rfl) | (obtain ⟨_, _, _, _, _, _, _, _, _, _, _, rfl, _⟩ := h; rfl) | (obtain ⟨_, _, _, _, _, _, _, _, _, _, _, _, rfl, _⟩ := h; rfl) | (obtain ⟨_, _, _, _, _, _, _, _, _, _, _, _, _, rfl, _⟩ := h; rfl) | (obtain ⟨_, _, _, _, _, _, _, _, _, _, _, _, _, _, rfl, _⟩ := h; rfl) | (obtain ⟨_, _, _, _, _, _, _, _, _, _, _, _, _, _, _, rfl, _⟩ := h; rfl)) (fun cdv A outer s H E hr => ⟨body_law_flags (cOf mg), (b3_cons (m3_set 1 (p3_lst (pa3_cons (p3 (r3_isN_ "NoAsking" ER (by rfl) B_isinstance (by rfl) (r3_name 0))) (pa3_cons (p3 (r3_isN_ "NoNumber" ER (by rfl) B_isinstance (by rfl) (r3_name 0))) (pa3_cons (p3 (r3_isN_ "NoText" ER (by rfl) B_isinstance (by rfl) (r3_name 0))) pa3_nil)))) sc_law_flags.nd)
      (b3_cons (m3_set 1 (p3_add (r3_name 1) (r3 (p3_lst (pa3_cons (p3 (r3_isN_ "NoLattice" ER (by rfl) B_isinstance (by rfl) (r3_name 0))) (pa3_cons (p3 (r3_isN_ "NoAsk" ER (by rfl) B_isinstance (by rfl) (r3_name 0))) pa3_nil))))) sc_law_flags.nd)
      (b3_one (m3_ret (p3_add (r3_name 1) (r3 (p3_lst (pa3_cons (p3 (r3_not (r3_isN_ "UnderError" ER (by rfl) B_isinstance (by rfl) (r3_name 0)))) (pa3_cons (p3 (r3_not (r3_isV ER (by rfl) B_isinstance (by rfl) (r3_name 0)))) pa3_nil))))))))), v_law_flags (cOf mg)⟩)
theorem ok_figures_read_x {f : Addr} {fd : FuncData} {k : Nat} (F : Fun K "figures_read" "figures_read" s_figures_read_x f fd) (B_int : mg "int" = none) (GL_FIGURES : ∃ u, mg "FIGURES" = some u ∧ RelV (.str "0123456789") u) (ER : ErrOk K mg) : FnOk P w K mg base (L2.CX P w) (k + 1) f fd ["word"] (lift K (sp_figures_read_x (cOf mg))) :=
  ok3X F sc_figures_read_x (fun ts Q E h => by first | (obtain ⟨rfl, _⟩ := h; rfl) | (obtain ⟨_, rfl, _⟩ := h; rfl) | (obtain ⟨_, _, rfl, _⟩ := h; rfl) | (obtain ⟨_, _, _, rfl, _⟩ := h; rfl) | (obtain ⟨_, _, _, _, rfl, _⟩ := h; rfl) | (obtain ⟨_, _, _, _, _, rfl, _⟩ := h; rfl) | (obtain ⟨_, _, _, _, _, _, rfl, _⟩ := h; rfl) | (obtain ⟨_, _, _, _, _, _, _, rfl, _⟩ := h; rfl) | (obtain ⟨_, _, _, _, _, _, _, _, rfl, _⟩ := h; rfl) | (obtain ⟨_, _, _, _, _, _, _, _, _, rfl, _⟩ := h; rfl) | (obtain ⟨_, _, _, _, _, _, _, _, _, _, rfl, _⟩ := h; rfl) | (obtain ⟨_, _, _, _, _, _, _, _, _, _, _, rfl, _⟩ := h; rfl) | (obtain ⟨_, _, _, _, _, _, _, _, _, _, _, _, rfl, _⟩ := h; rfl) | (obtain ⟨_, _, _, _, _, _, _, _, _, _, _, _, _, rfl, _⟩ := h; rfl) | (obtain ⟨_, _, _, _, _, _, _, _, _, _, _, _, _, _, rfl, _⟩ := h; rfl) | (obtain ⟨_, _, _, _, _, _, _, _, _, _, _, _, _, _, _, rfl, _⟩ := h; rfl)) (fun cdv A outer s H E hr => ⟨body_figures_read_x (cOf mg), (b3_cons (m3_if (t3_w (w3_or (t3_eq hr.units (r3_name 0) r3_str) (w3_or1 (t3_ne hr.units (r3 (p3_lc (own := [("sign", 1)]) (js := [1]) rfl sc_figures_read_x.nd (i3_str (r3_name 0)) (blkOk_by (N := N_figures_read_x) (sc := defScope s_figures_read_x) (by decide +kernel)) (by decide) (fun _ _ _ _ _ => (g3_name 1 sc_figures_read_x.nd)) (fun _ _ _ _ _ => (ts3_one (t3_notinS (r3_name 1) (r3_glS (i := "0123456789") GL_FIGURES (by rfl))))) (fun _ _ _ _ _ => (p3_move 1)))) (r3 (p3_lst pa3_nil)))))) (b3_one (m3_raiseN "NoText" ER (by rfl))) b3_nil)
      (b3_cons (m3_if (t3_w (w3_and (t3_eq hr.units (r3_ix (r3_name 0) r3_int) r3_str) (w3_and1 (t3_ne hr.units (r3_name 0) r3_str)))) (b3_one (m3_raiseN "NoText" ER (by rfl))) b3_nil)
      (b3_nox (b3_one (m3_ret (p3 (r3_int_ (by rfl) B_int (r3_name 0)))))))), v_figures_read_x (cOf mg)⟩)
theorem ok_fraction_read_x {f : Addr} {fd : FuncData} {k : Nat} (F : Fun K "fraction_read" "fraction_read" s_fraction_read_x f fd) (B_len : mg "len" = none) (C_figures_read_x : CalX P w K mg base "figures_read" k ["word"] (sp_figures_read_x (cOf mg))) (ER : ErrOk K mg) : FnOk P w K mg base (L2.CX P w) (k + 1) f fd ["word"] (lift K (sp_fraction_read_x (cOf mg))) :=
  ok3X F sc_fraction_read_x (fun ts Q E h => by first | (obtain ⟨rfl, _⟩ := h; rfl) | (obtain ⟨_, rfl, _⟩ := h; rfl) | (obtain ⟨_, _, rfl, _⟩ := h; rfl) | (obtain ⟨_, _, _, rfl, _⟩ := h; rfl) | (obtain ⟨_, _, _, _, rfl, _⟩ := h; rfl) | (obtain ⟨_, _, _, _, _, rfl, _⟩ := h; rfl) | (obtain ⟨_, _, _, _, _, _, rfl, _⟩ := h; rfl) | (obtain ⟨_, _, _, _, _, _, _, rfl, _⟩ := h; rfl) | (obtain ⟨_, _, _, _, _, _, _, _, rfl, _⟩ := h; rfl) | (obtain ⟨_, _, _, _, _, _, _, _, _, rfl, _⟩ := h; rfl) | (obtain ⟨_, _, _, _, _, _, _, _, _, _, rfl, _⟩ := h; rfl) | (obtain ⟨_, _, _, _, _, _, _, _, _, _, _, rfl, _⟩ := h; rfl) | (obtain ⟨_, _, _, _, _, _, _, _, _, _, _, _, rfl, _⟩ := h; rfl) | (obtain ⟨_, _, _, _, _, _, _, _, _, _, _, _, _, rfl, _⟩ := h; rfl) | (obtain ⟨_, _, _, _, _, _, _, _, _, _, _, _, _, _, rfl, _⟩ := h; rfl) | (obtain ⟨_, _, _, _, _, _, _, _, _, _, _, _, _, _, _, rfl, _⟩ := h; rfl)) (fun cdv A outer s H E hr => ⟨body_fraction_read_x (cOf mg), (b3_cons (m3_set 1 (p3_split (r3_name 0) r3_str) sc_fraction_read_x.nd)
      (b3_cons (m3_if (t3_w (w3_or (t3_neI (r3_len (by rfl) B_len (r3_name 1)) r3_int) (w3_or1 (t3_eq hr.units (r3_ix (r3_name 1) r3_int) r3_str)))) (b3_one (m3_raiseN "NoText" ER (by rfl))) b3_nil)
      (b3_cons (m3_set 2 (p3 r3_int) sc_fraction_read_x.nd)
      (b3_cons (m3_if (t3_eq hr.units (r3 (p3_sl (r3_ix (r3_name 1) r3_int) po3_none (po3_some r3_int))) r3_str) (b3_nox (b3_cons (m3_set 2 (p3 (r3_neg r3_int)) sc_fraction_read_x.nd)
      (b3_one (m3_asg (p3_sl (r3_ix (r3_name 1) r3_int) (po3_some r3_int) po3_none) (g3_sub 1 r3_int))))) b3_nil)
      (b3_one (m3_retX (p3w_tup2 (p3w_mul (r3_name 2) (p3w_cal C_figures_read_x hr (by rfl) (c3_val (r3_ix (r3_name 1) r3_int) c3_nil))) (p3w_cal C_figures_read_x hr (by rfl) (c3_val (r3_ix (r3_name 1) r3_int) c3_nil))))))))), v_fraction_read_x (cOf mg)⟩)
theorem ok_in_least {f : Addr} {fd : FuncData} {k : Nat} (F : Fun K "in_least" "in_least" s_in_least f fd) (B_abs : mg "abs" = none) : FnOk P w K mg base CX0 (k + 1) f fd ["above", "below"] (lift K sp_in_least) :=
  ok3 F sc_in_least (fun ts Q E h => by first | (obtain ⟨rfl, _⟩ := h; rfl) | (obtain ⟨_, rfl, _⟩ := h; rfl) | (obtain ⟨_, _, rfl, _⟩ := h; rfl) | (obtain ⟨_, _, _, rfl, _⟩ := h; rfl) | (obtain ⟨_, _, _, _, rfl, _⟩ := h; rfl) | (obtain ⟨_, _, _, _, _, rfl, _⟩ := h; rfl) | (obtain ⟨_, _, _, _, _, _, rfl, _⟩ := h; rfl) | (obtain ⟨_, _, _, _, _, _, _, rfl, _⟩ := h; rfl) | (obtain ⟨_, _, _, _, _, _, _, _, rfl, _⟩ := h; rfl) | (obtain ⟨_, _, _, _, _, _, _, _, _, rfl, _⟩ := h; rfl) | (obtain ⟨_, _, _, _, _, _, _, _, _, _, rfl, _⟩ := h; rfl) | (obtain ⟨_, _, _, _, _, _, _, _, _, _, _, rfl, _⟩ := h; rfl) | (obtain ⟨_, _, _, _, _, _, _, _, _, _, _, _, rfl, _⟩ := h; rfl) | (obtain ⟨_, _, _, _, _, _, _, _, _, _, _, _, _, rfl, _⟩ := h; rfl) | (obtain ⟨_, _, _, _, _, _, _, _, _, _, _, _, _, _, rfl, _⟩ := h; rfl) | (obtain ⟨_, _, _, _, _, _, _, _, _, _, _, _, _, _, _, rfl, _⟩ := h; rfl)) (fun cdv A outer s H E hr => ⟨body_in_least, (b3_cons (m3_par 2 3 rfl (pa3_cons (p3 (r3_abs (by rfl) B_abs (r3_name 0))) (pa3_cons (p3_move 1) pa3_nil)) sc_in_least.nd)
      (b3_cons (m3_while PassesOwn.never (t3_gt (r3_name 3) r3_int) (b3_one (m3_par 2 3 rfl (pa3_cons (p3_move 3) (pa3_cons (p3 (r3_mod (r3_name 2) (r3_name 3))) pa3_nil)) sc_in_least.nd)))
      (b3_one (m3_ret (p3_tup (pa3_cons (p3 (r3_fdiv (r3_name 0) (r3_name 2))) (pa3_cons (p3 (r3_fdiv (r3_name 1) (r3_name 2))) pa3_nil))))))), v_in_least⟩)
theorem ok_need_asking_x {f : Addr} {fd : FuncData} {k : Nat} (F : Fun K "need_asking" "need_asking" s_need_asking_x f fd) (ER : ErrOk K mg) : FnOk P w K mg base (L2.CX P w) (k + 1) f fd ["asking"] (lift K (sp_need_asking_x (cOf mg))) :=
  ok3X F sc_need_asking_x (fun ts Q E h => by first | (obtain ⟨rfl, _⟩ := h; rfl) | (obtain ⟨_, rfl, _⟩ := h; rfl) | (obtain ⟨_, _, rfl, _⟩ := h; rfl) | (obtain ⟨_, _, _, rfl, _⟩ := h; rfl) | (obtain ⟨_, _, _, _, rfl, _⟩ := h; rfl) | (obtain ⟨_, _, _, _, _, rfl, _⟩ := h; rfl) | (obtain ⟨_, _, _, _, _, _, rfl, _⟩ := h; rfl) | (obtain ⟨_, _, _, _, _, _, _, rfl, _⟩ := h; rfl) | (obtain ⟨_, _, _, _, _, _, _, _, rfl, _⟩ := h; rfl) | (obtain ⟨_, _, _, _, _, _, _, _, _, rfl, _⟩ := h; rfl) | (obtain ⟨_, _, _, _, _, _, _, _, _, _, rfl, _⟩ := h; rfl) | (obtain ⟨_, _, _, _, _, _, _, _, _, _, _, rfl, _⟩ := h; rfl) | (obtain ⟨_, _, _, _, _, _, _, _, _, _, _, _, rfl, _⟩ := h; rfl) | (obtain ⟨_, _, _, _, _, _, _, _, _, _, _, _, _, rfl, _⟩ := h; rfl) | (obtain ⟨_, _, _, _, _, _, _, _, _, _, _, _, _, _, rfl, _⟩ := h; rfl) | (obtain ⟨_, _, _, _, _, _, _, _, _, _, _, _, _, _, _, rfl, _⟩ := h; rfl)) (fun cdv A outer s H E hr => ⟨body_need_asking_x (cOf mg), (b3_one (m3_if (t3_w (w3_or (t3_eq hr.units (r3_name 0) (r3 (p3_tup pa3_nil))) (w3_or1 (t3_ne hr.units (r3 (p3_lc (own := [("above", 1), ("below", 2)]) (js := [1, 2]) rfl sc_need_asking_x.nd (i3_seq (r3_name 0)) (blkOk_by (N := N_need_asking_x) (sc := defScope s_need_asking_x) (by decide +kernel)) (by decide) (fun _ _ _ _ _ => (g3_tup (n := 2) rfl (gs3_cons (g3_name 1 sc_need_asking_x.nd) (gs3_cons (g3_name 2 sc_need_asking_x.nd) gs3_nil)))) (fun _ _ _ _ _ => (ts3_one (t3_lt (r3_name 2) r3_int))) (fun _ _ _ _ _ => (p3_move 2)))) (r3 (p3_lst pa3_nil)))))) (b3_one (m3_raiseN "NoAsking" ER (by rfl))) b3_nil)), v_need_asking_x (cOf mg)⟩)
theorem ok_read_asking_x {f : Addr} {fd : FuncData} {k : Nat} (F : Fun K "read_asking" "read_asking" s_read_asking_x f fd) (B_tuple : mg "tuple" = none) (C_fraction_read_x : CalX P w K mg base "fraction_read" k ["word"] (sp_fraction_read_x (cOf mg))) (C_in_least : Cal P w K mg base "in_least" k ["above", "below"] sp_in_least) (C_need_asking_x : CalX P w K mg base "need_asking" k ["asking"] (sp_need_asking_x (cOf mg))) (ER : ErrOk K mg) : FnOk P w K mg base (L2.CX P w) (k + 1) f fd ["text"] (lift K (sp_read_asking_x (cOf mg))) :=
  ok3X F sc_read_asking_x (fun ts Q E h => by first | (obtain ⟨rfl, _⟩ := h; rfl) | (obtain ⟨_, rfl, _⟩ := h; rfl) | (obtain ⟨_, _, rfl, _⟩ := h; rfl) | (obtain ⟨_, _, _, rfl, _⟩ := h; rfl) | (obtain ⟨_, _, _, _, rfl, _⟩ := h; rfl) | (obtain ⟨_, _, _, _, _, rfl, _⟩ := h; rfl) | (obtain ⟨_, _, _, _, _, _, rfl, _⟩ := h; rfl) | (obtain ⟨_, _, _, _, _, _, _, rfl, _⟩ := h; rfl) | (obtain ⟨_, _, _, _, _, _, _, _, rfl, _⟩ := h; rfl) | (obtain ⟨_, _, _, _, _, _, _, _, _, rfl, _⟩ := h; rfl) | (obtain ⟨_, _, _, _, _, _, _, _, _, _, rfl, _⟩ := h; rfl) | (obtain ⟨_, _, _, _, _, _, _, _, _, _, _, rfl, _⟩ := h; rfl) | (obtain ⟨_, _, _, _, _, _, _, _, _, _, _, _, rfl, _⟩ := h; rfl) | (obtain ⟨_, _, _, _, _, _, _, _, _, _, _, _, _, rfl, _⟩ := h; rfl) | (obtain ⟨_, _, _, _, _, _, _, _, _, _, _, _, _, _, rfl, _⟩ := h; rfl) | (obtain ⟨_, _, _, _, _, _, _, _, _, _, _, _, _, _, _, rfl, _⟩ := h; rfl)) (fun cdv A outer s H E hr => ⟨body_read_asking_x (cOf mg), (b3_cons (m3_if (t3_eq hr.units (r3_name 0) r3_str) (b3_one (m3_raiseN "NoAsking" ER (by rfl))) b3_nil)
      (b3_cons (m3_asgX (p3w_tupleX (by rfl) B_tuple (p3w_lcX (own := [("word", 2)]) (js := [2]) C_fraction_read_x hr rfl sc_read_asking_x.nd (i3_seq (r3 (p3_split (r3_name 0) r3_str))) (blkOk_by (N := N_read_asking_x) (sc := defScope s_read_asking_x) (by decide +kernel)) (by decide) (fun _ _ _ _ _ _ => by rfl) (fun _ _ _ _ _ => (g3_name 2 sc_read_asking_x.nd)) (fun _ _ _ _ _ _ => (c3_val (r3_name 2) c3_nil)))) (g3_name 1 sc_read_asking_x.nd))
      (b3_cons (m3_exprX (p3w_cal C_need_asking_x hr (by rfl) (c3_val (r3_name 1) c3_nil)))
      (b3_nox (b3_one (m3_ret (p3 (r3_tuple (by rfl) B_tuple (r3 (p3_lc (own := [("above", 3), ("below", 4)]) (js := [3, 4]) rfl sc_read_asking_x.nd (i3_seq (r3_name 1)) (blkOk_by (N := N_read_asking_x) (sc := defScope s_read_asking_x) (by decide +kernel)) (by decide) (fun _ _ _ _ _ => (g3_tup (n := 2) rfl (gs3_cons (g3_name 3 sc_read_asking_x.nd) (gs3_cons (g3_name 4 sc_read_asking_x.nd) gs3_nil)))) (fun _ _ _ _ _ => ts3_nil) (fun _ _ _ _ _ => (p3_cal C_in_least hr (by rfl) (c3_val (r3_name 3) (c3_val (r3_name 4) c3_nil)))))))))))))), v_read_asking_x (cOf mg)⟩)
theorem ok_law_told_1 {f : Addr} {fd : FuncData} {k : Nat} (F : Fun K "_law_told" "_law_told" s_law_told_1 f fd) (B_int : mg "int" = none) (B_range : mg "range" = none) (C_law_flags : Cal P w K mg base "_law_flags" k ["_law_thing"] (sp_law_flags (cOf mg))) (C_read_asking_x : CalX P w K mg base "read_asking" k ["text"] (sp_read_asking_x (cOf mg))) (ER : ErrOk K mg) : FnOk P w K mg base CX0 (k + 1) f fd ["_law_text"] (lift K sp_law_told_1) :=
  ok3 F sc_law_told_1 (fun ts Q E h => by first | (obtain ⟨rfl, _⟩ := h; rfl) | (obtain ⟨_, rfl, _⟩ := h; rfl) | (obtain ⟨_, _, rfl, _⟩ := h; rfl) | (obtain ⟨_, _, _, rfl, _⟩ := h; rfl) | (obtain ⟨_, _, _, _, rfl, _⟩ := h; rfl) | (obtain ⟨_, _, _, _, _, rfl, _⟩ := h; rfl) | (obtain ⟨_, _, _, _, _, _, rfl, _⟩ := h; rfl) | (obtain ⟨_, _, _, _, _, _, _, rfl, _⟩ := h; rfl) | (obtain ⟨_, _, _, _, _, _, _, _, rfl, _⟩ := h; rfl) | (obtain ⟨_, _, _, _, _, _, _, _, _, rfl, _⟩ := h; rfl) | (obtain ⟨_, _, _, _, _, _, _, _, _, _, rfl, _⟩ := h; rfl) | (obtain ⟨_, _, _, _, _, _, _, _, _, _, _, rfl, _⟩ := h; rfl) | (obtain ⟨_, _, _, _, _, _, _, _, _, _, _, _, rfl, _⟩ := h; rfl) | (obtain ⟨_, _, _, _, _, _, _, _, _, _, _, _, _, rfl, _⟩ := h; rfl) | (obtain ⟨_, _, _, _, _, _, _, _, _, _, _, _, _, _, rfl, _⟩ := h; rfl) | (obtain ⟨_, _, _, _, _, _, _, _, _, _, _, _, _, _, _, rfl, _⟩ := h; rfl)) (fun cdv A outer s H E hr => ⟨body_law_told_1 (cOf mg), (b3_cons (m3_set 1 (p3 r3_none) sc_law_told_1.nd)
      (b3_cons (m3_set 2 (p3 r3_none) sc_law_told_1.nd)
      (b3_cons (m3_tryU 3 ER sc_law_told_1.nd (by rfl) (fun _ _ _ => (b3_one (m3_asgX (p3w_cal C_read_asking_x hr (by rfl) (c3_val (r3_name 0) c3_nil)) (g3_name 1 sc_law_told_1.nd)))) (fun _ _ => (b3_one (m3_set 2 (p3_move 3) sc_law_told_1.nd))))
      (b3_cons (m3_if (t3_isN (r3_name 2) r3_none) (b3_one (m3_ret (p3_tup (pa3_cons (p3_move 1) (pa3_cons (p3 r3_str) pa3_nil))))) b3_nil)
      (b3_cons (m3_set 4 (p3_cal C_law_flags hr (by rfl) (c3_val (r3_name 2) c3_nil)) sc_law_told_1.nd)
      (b3_cons (m3_if (t3_eq hr.units (r3_name 4) (r3 (p3_lc (own := [("_law_k", 5)]) (js := [5]) rfl sc_law_told_1.nd (i3_range1 (by rfl) B_range r3_int) (blkOk_by (N := N_law_told_1) (sc := defScope s_law_told_1) (by decide +kernel)) (by decide) (fun _ _ _ _ _ => (g3_name 5 sc_law_told_1.nd)) (fun _ _ _ _ _ => ts3_nil) (fun _ _ _ _ _ => (p3 (r3_eqI (r3_name 5) r3_int)))))) (b3_one (m3_ret (p3_tup (pa3_cons (p3 r3_none) (pa3_cons (p3 r3_str) pa3_nil))))) b3_nil)
      (b3_one (m3_ret (p3_tup (pa3_cons (p3 r3_none) (pa3_cons (p3 (r3_ix (r3 (p3_lst (pa3_cons (p3 r3_str) (pa3_cons (p3 r3_str) pa3_nil)))) (r3_int_ (by rfl) B_int (r3_eq hr.units (r3_name 4) (r3 (p3_lc (own := [("_law_k", 5)]) (js := [5]) rfl sc_law_told_1.nd (i3_range1 (by rfl) B_range r3_int) (blkOk_by (N := N_law_told_1) (sc := defScope s_law_told_1) (by decide +kernel)) (by decide) (fun _ _ _ _ _ => (g3_name 5 sc_law_told_1.nd)) (fun _ _ _ _ _ => ts3_nil) (fun _ _ _ _ _ => (p3 (r3_eqI (r3_name 5) r3_int))))))))) pa3_nil))))))))))), v_law_told_1 (cOf mg)⟩)
theorem ok_law_right_1 {f : Addr} {fd : FuncData} {k : Nat} (F : Fun K "_law_right" "_law_right" s_law_right_1 f fd) (B_int : mg "int" = none) (B_len : mg "len" = none) (B_max : mg "max" = none) (B_sum : mg "sum" = none) (C_law_due_1 : Cal P w K mg base "_law_due" k ["_law_text"] sp_law_due_1) (C_law_same_2 : Cal P w K mg base "_law_same" k ["_law_found", "_law_due_here"] (sp_law_same_2 8)) (C_law_told_1 : Cal P w K mg base "_law_told" k ["_law_text"] sp_law_told_1) : FnOk P w K mg base CX0 (k + 1) f fd ["_law_text"] (lift K sp_law_right_1) :=
  ok3 F sc_law_right_1 (fun ts Q E h => by first | (obtain ⟨rfl, _⟩ := h; rfl) | (obtain ⟨_, rfl, _⟩ := h; rfl) | (obtain ⟨_, _, rfl, _⟩ := h; rfl) | (obtain ⟨_, _, _, rfl, _⟩ := h; rfl) | (obtain ⟨_, _, _, _, rfl, _⟩ := h; rfl) | (obtain ⟨_, _, _, _, _, rfl, _⟩ := h; rfl) | (obtain ⟨_, _, _, _, _, _, rfl, _⟩ := h; rfl) | (obtain ⟨_, _, _, _, _, _, _, rfl, _⟩ := h; rfl) | (obtain ⟨_, _, _, _, _, _, _, _, rfl, _⟩ := h; rfl) | (obtain ⟨_, _, _, _, _, _, _, _, _, rfl, _⟩ := h; rfl) | (obtain ⟨_, _, _, _, _, _, _, _, _, _, rfl, _⟩ := h; rfl) | (obtain ⟨_, _, _, _, _, _, _, _, _, _, _, rfl, _⟩ := h; rfl) | (obtain ⟨_, _, _, _, _, _, _, _, _, _, _, _, rfl, _⟩ := h; rfl) | (obtain ⟨_, _, _, _, _, _, _, _, _, _, _, _, _, rfl, _⟩ := h; rfl) | (obtain ⟨_, _, _, _, _, _, _, _, _, _, _, _, _, _, rfl, _⟩ := h; rfl) | (obtain ⟨_, _, _, _, _, _, _, _, _, _, _, _, _, _, _, rfl, _⟩ := h; rfl)) (fun cdv A outer s H E hr => ⟨body_law_right_1, (b3_cons (m3_set 1 (p3_split (r3_name 0) r3_str) sc_law_right_1.nd)
      (b3_fz 1 (b3_cons (m3_set 2 (p3_sumL rfl (by rfl) B_sum (r3 (p3_lc (own := [("_law_word", 5)]) (js := [5]) rfl sc_law_right_1.nd (i3_seq (r3_name 1)) (blkOk_by (N := N_law_right_1) (sc := defScope s_law_right_1) (by decide +kernel)) (by decide) (fun _ _ _ _ _ => (g3_name 5 sc_law_right_1.nd)) (fun _ _ _ _ _ => ts3_nil) (fun _ _ _ _ _ => (p3_split (r3_name 5) r3_str)))) (r3 (p3_lst pa3_nil))) sc_law_right_1.nd)
      (b3_fz 2 (b3_cons (m3_set 3 (p3_cal C_law_due_1 hr (by rfl) (c3_val (r3_name 0) c3_nil)) sc_law_right_1.nd)
      (b3_cons (m3_set 4 (p3 (r3_or (r3_gt (r3_len (by rfl) B_len (r3_name 1)) r3_int) (r3_one (r3_gt (r3_maxL rfl (by rfl) B_max (r3 (p3_lc (own := [("_law_number", 6)]) (js := [6]) rfl sc_law_right_1.nd (i3_seq (r3_name 2)) (blkOk_by (N := N_law_right_1) (sc := defScope s_law_right_1) (by decide +kernel)) (by decide) (fun _ _ _ _ _ => (g3_name 6 sc_law_right_1.nd)) (fun _ _ _ _ _ => ts3_nil) (fun _ _ _ _ _ => (p3 (r3_sub (r3_len (by rfl) B_len (r3_name 6)) (r3_int_ (by rfl) B_int (r3_eq hr.units (r3 (p3_sl (r3_name 6) po3_none (po3_some r3_int))) r3_str)))))))) r3_int)))) sc_law_right_1.nd)
      (b3_cons (m3_if (t3_w (w3_and (t3_val (r3_name 4)) (w3_and1 (t3_ne hr.units (r3_ix (r3_name 3) r3_int) r3_str)))) (b3_one (m3_ret (p3 r3_bool))) b3_nil)
      (b3_one (m3_ret (p3 (r3_and (r3 (p3_cal C_law_same_2 hr (by rfl) (c3_val (r3 (p3_cal C_law_told_1 hr (by rfl) (c3_val (r3_name 0) c3_nil))) (c3_val (r3_name 3) c3_nil)))) (r3_one (r3 (p3_cal C_law_same_2 hr (by rfl) (c3_val (r3 (p3_cal C_law_told_1 hr (by rfl) (c3_val (r3_name 0) c3_nil))) (c3_val (r3_name 3) c3_nil)))))))))))))))), v_law_right_1⟩)
theorem ok_law_sign {f : Addr} {fd : FuncData} {k : Nat} (F : Fun K "_law_sign" "_law_sign" s_law_sign f fd) (B_len : mg "len" = none) (C_law_take : Cal P w K mg base "_law_take" k ["_law_deck_here", "_law_many"] sp_law_take) : FnOk P w K mg base CX0 (k + 1) f fd ["_law_deck_here"] (lift K sp_law_sign) :=
  ok3 F sc_law_sign (fun ts Q E h => by first | (obtain ⟨rfl, _⟩ := h; rfl) | (obtain ⟨_, rfl, _⟩ := h; rfl) | (obtain ⟨_, _, rfl, _⟩ := h; rfl) | (obtain ⟨_, _, _, rfl, _⟩ := h; rfl) | (obtain ⟨_, _, _, _, rfl, _⟩ := h; rfl) | (obtain ⟨_, _, _, _, _, rfl, _⟩ := h; rfl) | (obtain ⟨_, _, _, _, _, _, rfl, _⟩ := h; rfl) | (obtain ⟨_, _, _, _, _, _, _, rfl, _⟩ := h; rfl) | (obtain ⟨_, _, _, _, _, _, _, _, rfl, _⟩ := h; rfl) | (obtain ⟨_, _, _, _, _, _, _, _, _, rfl, _⟩ := h; rfl) | (obtain ⟨_, _, _, _, _, _, _, _, _, _, rfl, _⟩ := h; rfl) | (obtain ⟨_, _, _, _, _, _, _, _, _, _, _, rfl, _⟩ := h; rfl) | (obtain ⟨_, _, _, _, _, _, _, _, _, _, _, _, rfl, _⟩ := h; rfl) | (obtain ⟨_, _, _, _, _, _, _, _, _, _, _, _, _, rfl, _⟩ := h; rfl) | (obtain ⟨_, _, _, _, _, _, _, _, _, _, _, _, _, _, rfl, _⟩ := h; rfl) | (obtain ⟨_, _, _, _, _, _, _, _, _, _, _, _, _, _, _, rfl, _⟩ := h; rfl)) (fun cdv A outer s H E hr => ⟨body_law_sign, (b3_cons (m3_set 1 (p3 r3_str) sc_law_sign.nd)
      (b3_cons (m3_set 1 (p3_add (r3_name 1) r3_str) sc_law_sign.nd)
      (b3_cons (m3_set 2 (p3 (r3_ix (r3 (p3_lst (pa3_cons (p3 r3_str) (pa3_cons (p3_move 1) pa3_nil)))) (r3 (p3_cal C_law_take hr (by rfl) (c3_io 0 (c3_val r3_int c3_nil)))))) sc_law_sign.nd)
      (b3_one (m3_ret (p3 (r3_ix (r3_name 2) (r3 (p3_cal C_law_take hr (by rfl) (c3_io 0 (c3_val (r3_len (by rfl) B_len (r3_name 2)) c3_nil))))))))))), v_law_sign⟩)
theorem ok_law_spoilt_1 {f : Addr} {fd : FuncData} {k : Nat} (F : Fun K "_law_spoilt" "_law_spoilt" s_law_spoilt_1 f fd) (B_len : mg "len" = none) (C_law_sign : Cal P w K mg base "_law_sign" k ["_law_deck_here"] sp_law_sign) (C_law_take : Cal P w K mg base "_law_take" k ["_law_deck_here", "_law_many"] sp_law_take) : FnOk P w K mg base CX0 (k + 1) f fd ["_law_deck_here", "_law_text"] (lift K sp_law_spoilt_1) :=
  ok3 F sc_law_spoilt_1 (fun ts Q E h => by first | (obtain ⟨rfl, _⟩ := h; rfl) | (obtain ⟨_, rfl, _⟩ := h; rfl) | (obtain ⟨_, _, rfl, _⟩ := h; rfl) | (obtain ⟨_, _, _, rfl, _⟩ := h; rfl) | (obtain ⟨_, _, _, _, rfl, _⟩ := h; rfl) | (obtain ⟨_, _, _, _, _, rfl, _⟩ := h; rfl) | (obtain ⟨_, _, _, _, _, _, rfl, _⟩ := h; rfl) | (obtain ⟨_, _, _, _, _, _, _, rfl, _⟩ := h; rfl) | (obtain ⟨_, _, _, _, _, _, _, _, rfl, _⟩ := h; rfl) | (obtain ⟨_, _, _, _, _, _, _, _, _, rfl, _⟩ := h; rfl) | (obtain ⟨_, _, _, _, _, _, _, _, _, _, rfl, _⟩ := h; rfl) | (obtain ⟨_, _, _, _, _, _, _, _, _, _, _, rfl, _⟩ := h; rfl) | (obtain ⟨_, _, _, _, _, _, _, _, _, _, _, _, rfl, _⟩ := h; rfl) | (obtain ⟨_, _, _, _, _, _, _, _, _, _, _, _, _, rfl, _⟩ := h; rfl) | (obtain ⟨_, _, _, _, _, _, _, _, _, _, _, _, _, _, rfl, _⟩ := h; rfl) | (obtain ⟨_, _, _, _, _, _, _, _, _, _, _, _, _, _, _, rfl, _⟩ := h; rfl)) (fun cdv A outer s H E hr => ⟨body_law_spoilt_1, (b3_cons (m3_set 2 (p3_cal C_law_take hr (by rfl) (c3_io 0 (c3_val (r3_add (r3_len (by rfl) B_len (r3_name 1)) r3_int) c3_nil))) sc_law_spoilt_1.nd)
      (b3_cons (m3_set 3 (p3_cal C_law_take hr (by rfl) (c3_io 0 (c3_val r3_int c3_nil))) sc_law_spoilt_1.nd)
      (b3_cons (m3_set 4 (p3_split (r3_name 1) r3_str) sc_law_spoilt_1.nd)
      (b3_cons (m3_set 5 (p3_cal C_law_take hr (by rfl) (c3_io 0 (c3_val (r3_len (by rfl) B_len (r3_name 4)) c3_nil))) sc_law_spoilt_1.nd)
      (b3_cons (m3_set 6 (p3_lst (pa3_cons (p3 r3_str) (pa3_cons (p3 r3_str) (pa3_cons (p3 r3_str) (pa3_cons (p3 r3_str) (pa3_cons (p3 r3_str) (pa3_cons (p3 r3_str) (pa3_cons (p3 r3_str) (pa3_cons (p3 r3_str) (pa3_cons (p3 r3_str) (pa3_cons (p3 r3_str) (pa3_cons (p3 r3_str) (pa3_cons (p3 r3_str) (pa3_cons (p3 r3_str) (pa3_cons (p3 r3_str) (pa3_cons (p3 r3_str) pa3_nil)))))))))))))))) sc_law_spoilt_1.nd)
      (b3_fz 6 (b3_cons (m3_set 6 (p3_add (r3_name 6) (r3 (p3_lst (pa3_cons (p3 r3_str) (pa3_cons (p3 r3_str) (pa3_cons (p3 r3_str) (pa3_cons (p3 r3_str) (pa3_cons (p3 r3_str) (pa3_cons (p3 r3_str) (pa3_cons (p3 r3_str) pa3_nil)))))))))) sc_law_spoilt_1.nd)
      (b3_fz 6 (b3_cons (m3_set 7 (p3 (r3_ix (r3_name 6) (r3 (p3_cal C_law_take hr (by rfl) (c3_io 0 (c3_val r3_int c3_nil)))))) sc_law_spoilt_1.nd)
      (b3_cons (m3_if (t3_eqI (r3_name 3) r3_int) (b3_one (m3_ret (p3_add (r3 (p3_sl (r3_name 1) po3_none (po3_some (r3_name 2)))) (r3 (p3_sl (r3_name 1) (po3_some (r3_add (r3_name 2) r3_int)) po3_none))))) b3_nil)
      (b3_cons (m3_if (t3_eqI (r3_name 3) r3_int) (b3_one (m3_ret (p3_add (r3 (p3_add (r3 (p3_sl (r3_name 1) po3_none (po3_some (r3_name 2)))) (r3 (p3_cal C_law_sign hr (by rfl) (c3_io 0 c3_nil))))) (r3 (p3_sl (r3_name 1) (po3_some (r3_name 2)) po3_none))))) b3_nil)
      (b3_cons (m3_if (t3_eqI (r3_name 3) r3_int) (b3_one (m3_ret (p3_add (r3 (p3_add (r3 (p3_sl (r3_name 1) po3_none (po3_some (r3_name 2)))) (r3 (p3_cal C_law_sign hr (by rfl) (c3_io 0 c3_nil))))) (r3 (p3_sl (r3_name 1) (po3_some (r3_add (r3_name 2) r3_int)) po3_none))))) b3_nil)
      (b3_cons (m3_if (t3_eqI (r3_name 3) r3_int) (b3_one (m3_expr (p3_insS 4 (r3_name 5) (r3_name 7)))) (b3_one (m3_if (t3_eqI (r3_name 3) r3_int) (b3_one (m3_expr (p3_popS 4 (r3_name 5)))) (b3_one (m3_if (t3_eqI (r3_name 3) r3_int) (b3_one (m3_asg (p3_move 7) (g3_sub 4 (r3_name 5)))) (b3_one (m3_asg (p3_add (r3 (p3_add (r3_ix (r3 (p3_split (r3_ix (r3_name 4) (r3_name 5)) r3_str)) r3_int) r3_str)) (r3_name 7)) (g3_sub 4 (r3_name 5)))))))))
      (b3_one (m3_ret (p3 (r3_join r3_str (r3_name 4)))))))))))))))))), v_law_spoilt_1⟩)
theorem ok_law_4 {f : Addr} {fd : FuncData} {k : Nat} (F : Fun K "law" "law" s_law_4 f fd) (B_range : mg "range" = none) (B_str : mg "str" = none) (C_law_asking_1 : Cal P w K mg base "_law_asking" k ["_law_deck_here"] sp_law_asking_1) (C_law_deck : Cal P w K mg base "_law_deck" k ["_law_script"] sp_law_deck) (C_law_right_1 : Cal P w K mg base "_law_right" k ["_law_text"] sp_law_right_1) (C_law_sign : Cal P w K mg base "_law_sign" k ["_law_deck_here"] sp_law_sign) (C_law_spoilt_1 : Cal P w K mg base "_law_spoilt" k ["_law_deck_here", "_law_text"] sp_law_spoilt_1) (C_law_take : Cal P w K mg base "_law_take" k ["_law_deck_here", "_law_many"] sp_law_take) : FnOk P w K mg base CX0 (k + 1) f fd ["_law_script"] (lift K spLaw) :=
  ok3 F sc_law_4 (fun ts Q E h => by first | (obtain ⟨rfl, _⟩ := h; rfl) | (obtain ⟨_, rfl, _⟩ := h; rfl) | (obtain ⟨_, _, rfl, _⟩ := h; rfl) | (obtain ⟨_, _, _, rfl, _⟩ := h; rfl) | (obtain ⟨_, _, _, _, rfl, _⟩ := h; rfl) | (obtain ⟨_, _, _, _, _, rfl, _⟩ := h; rfl) | (obtain ⟨_, _, _, _, _, _, rfl, _⟩ := h; rfl) | (obtain ⟨_, _, _, _, _, _, _, rfl, _⟩ := h; rfl) | (obtain ⟨_, _, _, _, _, _, _, _, rfl, _⟩ := h; rfl) | (obtain ⟨_, _, _, _, _, _, _, _, _, rfl, _⟩ := h; rfl) | (obtain ⟨_, _, _, _, _, _, _, _, _, _, rfl, _⟩ := h; rfl) | (obtain ⟨_, _, _, _, _, _, _, _, _, _, _, rfl, _⟩ := h; rfl) | (obtain ⟨_, _, _, _, _, _, _, _, _, _, _, _, rfl, _⟩ := h; rfl) | (obtain ⟨_, _, _, _, _, _, _, _, _, _, _, _, _, rfl, _⟩ := h; rfl) | (obtain ⟨_, _, _, _, _, _, _, _, _, _, _, _, _, _, rfl, _⟩ := h; rfl) | (obtain ⟨_, _, _, _, _, _, _, _, _, _, _, _, _, _, _, rfl, _⟩ := h; rfl)) (fun cdv A outer s H E hr => ⟨body_law_4, (b3_cons (m3_set 1 (p3_cal C_law_deck hr (by rfl) (c3_val (r3_name 0) c3_nil)) sc_law_4.nd)
      (b3_cons (m3_for PassesOwn.never rfl (i3_range1 (by rfl) B_range r3_int) (g3_name 2 sc_law_4.nd) (b3_cons (m3_set 3 (p3 (r3_join r3_str (r3 (p3_lc (own := [("_law_above", 8), ("_law_below_here", 9)]) (js := [8, 9]) rfl sc_law_4.nd (i3_seq (r3 (p3_cal C_law_asking_1 hr (by rfl) (c3_io 1 c3_nil)))) (blkOk_by (N := N_law_4) (sc := defScope s_law_4) (by decide +kernel)) (by decide) (fun _ _ _ _ _ => (g3_tup (n := 2) rfl (gs3_cons (g3_name 8 sc_law_4.nd) (gs3_cons (g3_name 9 sc_law_4.nd) gs3_nil)))) (fun _ _ _ _ _ => ts3_nil) (fun _ _ _ _ _ => (p3_add (r3 (p3_add (r3_str_ (by rfl) B_str (r3_name 8)) r3_str)) (r3_str_ (by rfl) B_str (r3_name 9)))))))) sc_law_4.nd)
      (b3_one (m3_for PassesOwn.never rfl (i3_range1 (by rfl) B_range r3_int) (g3_name 4 sc_law_4.nd) (b3_cons (m3_set 5 (p3_cal C_law_spoilt_1 hr (by rfl) (c3_io 1 (c3_val (r3_name 3) c3_nil))) sc_law_4.nd)
      (b3_one (m3_if (t3_w (w3_or (t3_not (t3_val (r3 (p3_cal C_law_right_1 hr (by rfl) (c3_val (r3_name 3) c3_nil))))) (w3_or (t3_not (t3_val (r3 (p3_cal C_law_right_1 hr (by rfl) (c3_val (r3_name 5) c3_nil))))) (w3_or1 (t3_not (t3_val (r3 (p3_cal C_law_right_1 hr (by rfl) (c3_val (r3 (p3_cal C_law_spoilt_1 hr (by rfl) (c3_io 1 (c3_val (r3_name 5) c3_nil)))) c3_nil))))))))) (b3_one (m3_ret (p3 r3_bool))) b3_nil)))))))
      (b3_cons (m3_set 6 (p3 (r3_join r3_str (r3 (p3_lc (own := [("_law_k", 7)]) (js := [7]) rfl sc_law_4.nd (i3_range1 (by rfl) B_range (r3 (p3_cal C_law_take hr (by rfl) (c3_io 1 (c3_val r3_int c3_nil))))) (blkOk_by (N := N_law_4) (sc := defScope s_law_4) (by decide +kernel)) (by decide) (fun _ _ _ _ _ => (g3_name 7 sc_law_4.nd)) (fun _ _ _ _ _ => ts3_nil) (fun _ _ _ _ _ => (p3_cal C_law_sign hr (by rfl) (c3_io 1 c3_nil))))))) sc_law_4.nd)
      (b3_cons (m3_for PassesOwn.never rfl (i3_seq (r3 (p3_lst (pa3_cons (p3_move 6) (pa3_cons (p3 r3_str) (pa3_cons (p3 r3_str) (pa3_cons (p3 r3_str) (pa3_cons (p3 r3_str) (pa3_cons (p3 r3_str) (pa3_cons (p3 r3_str) (pa3_cons (p3 r3_str) (pa3_cons (p3 r3_str) (pa3_cons (p3 r3_str) (pa3_cons (p3 r3_str) pa3_nil)))))))))))))) (g3_name 3 sc_law_4.nd) (b3_one (m3_if (t3_not (t3_val (r3 (p3_cal C_law_right_1 hr (by rfl) (c3_val (r3_name 3) c3_nil))))) (b3_one (m3_ret (p3 r3_bool))) b3_nil)))
      (b3_one (m3_ret (p3 r3_bool))))))), v_law_4⟩)
end
theorem all_mk {l : PySem.W.OpenLaw} {w : World} {K : PySem.W.Frag} {h : Heap} {mg : Str → Option Value} {fa f0 f1 f2 f3 f4 f5 f6 f7 f8 f9 f10 f11 f12 f13 f14 f15 f16 f17 f18 f19 f20 f21 : Addr} (X : K.In h) (G : h.Ns mainGlobals mg) (hfa : mg "law" = some (.ref fa))
    {od0 an0 od1 an1 od2 an2 od3 an3 od4 an4 od5 an5 od6 an6 od7 an7 od8 an8 od9 an9 od10 an10 od11 an11 od12 an12 od13 an13 od14 an14 od15 an15 od16 an16 od17 an17 od18 an18 od19 an19 od20 an20 od21 an21 : Option Addr} {sl0 sl1 sl2 sl3 sl4 sl5 sl6 sl7 sl8 sl9 sl10 sl11 sl12 sl13 sl14 sl15 sl16 sl17 sl18 sl19 sl20 sl21 : Array (Option Value)} {oc0 kV0 dc0 pm0 cd0 ct0 oc1 kV1 dc1 pm1 cd1 ct1 oc2 kV2 dc2 pm2 cd2 ct2 oc3 kV3 dc3 pm3 cd3 ct3 oc4 kV4 dc4 pm4 cd4 ct4 oc5 kV5 dc5 pm5 cd5 ct5 oc6 kV6 dc6 pm6 cd6 ct6 oc7 kV7 dc7 pm7 cd7 ct7 oc8 kV8 dc8 pm8 cd8 ct8 oc9 kV9 dc9 pm9 cd9 ct9 oc10 kV10 dc10 pm10 cd10 ct10 oc11 kV11 dc11 pm11 cd11 ct11 oc12 kV12 dc12 pm12 cd12 ct12 oc13 kV13 dc13 pm13 cd13 ct13 oc14 kV14 dc14 pm14 cd14 ct14 oc15 kV15 dc15 pm15 cd15 ct15 oc16 kV16 dc16 pm16 cd16 ct16 oc17 kV17 dc17 pm17 cd17 ct17 oc18 kV18 dc18 pm18 cd18 ct18 oc19 kV19 dc19 pm19 cd19 ct19 oc20 kV20 dc20 pm20 cd20 ct20 oc21 kV21 dc21 pm21 cd21 ct21 : Value}
    (a0 : PySem.W.nsIn K mainGlobals "_law_take" = some (some (.ref f0))) (l0 : K.lookup f0 = some ⟨oc0, od0, .func (PySem.W.fnOf "_law_take" "_law_take" (defArgs s_law_take) (defBody s_law_take) (defScope s_law_take) .none kV0 dc0 pm0 an0 cd0 ct0), sl0⟩) (c0 : PySem.W.codeIn K cd0 "_law_take" = true) (k0 : PySem.W.keepIn K (.ref f0) = true)
    (a1 : PySem.W.nsIn K mainGlobals "_law_far" = some (some (.ref f1))) (l1 : K.lookup f1 = some ⟨oc1, od1, .func (PySem.W.fnOf "_law_far" "_law_far" (defArgs s_law_far) (defBody s_law_far) (defScope s_law_far) .none kV1 dc1 pm1 an1 cd1 ct1), sl1⟩) (c1 : PySem.W.codeIn K cd1 "_law_far" = true) (k1 : PySem.W.keepIn K (.ref f1) = true)
    (a2 : PySem.W.nsIn K mainGlobals "_law_below" = some (some (.ref f2))) (l2 : K.lookup f2 = some ⟨oc2, od2, .func (PySem.W.fnOf "_law_below" "_law_below" (defArgs s_law_below_1) (defBody s_law_below_1) (defScope s_law_below_1) .none kV2 dc2 pm2 an2 cd2 ct2), sl2⟩) (c2 : PySem.W.codeIn K cd2 "_law_below" = true) (k2 : PySem.W.keepIn K (.ref f2) = true)
    (a3 : PySem.W.nsIn K mainGlobals "_law_fraction" = some (some (.ref f3))) (l3 : K.lookup f3 = some ⟨oc3, od3, .func (PySem.W.fnOf "_law_fraction" "_law_fraction" (defArgs s_law_fraction_1) (defBody s_law_fraction_1) (defScope s_law_fraction_1) .none kV3 dc3 pm3 an3 cd3 ct3), sl3⟩) (c3 : PySem.W.codeIn K cd3 "_law_fraction" = true) (k3 : PySem.W.keepIn K (.ref f3) = true)
    (a4 : PySem.W.nsIn K mainGlobals "_law_asking" = some (some (.ref f4))) (l4 : K.lookup f4 = some ⟨oc4, od4, .func (PySem.W.fnOf "_law_asking" "_law_asking" (defArgs s_law_asking_1) (defBody s_law_asking_1) (defScope s_law_asking_1) .none kV4 dc4 pm4 an4 cd4 ct4), sl4⟩) (c4 : PySem.W.codeIn K cd4 "_law_asking" = true) (k4 : PySem.W.keepIn K (.ref f4) = true)
    (a5 : PySem.W.nsIn K mainGlobals "_law_deck" = some (some (.ref f5))) (l5 : K.lookup f5 = some ⟨oc5, od5, .func (PySem.W.fnOf "_law_deck" "_law_deck" (defArgs s_law_deck) (defBody s_law_deck) (defScope s_law_deck) .none kV5 dc5 pm5 an5 cd5 ct5), sl5⟩) (c5 : PySem.W.codeIn K cd5 "_law_deck" = true) (k5 : PySem.W.keepIn K (.ref f5) = true)
    (a6 : PySem.W.nsIn K mainGlobals "_law_number_in" = some (some (.ref f6))) (l6 : K.lookup f6 = some ⟨oc6, od6, .func (PySem.W.fnOf "_law_number_in" "_law_number_in" (defArgs s_law_number_in) (defBody s_law_number_in) (defScope s_law_number_in) .none kV6 dc6 pm6 an6 cd6 ct6), sl6⟩) (c6 : PySem.W.codeIn K cd6 "_law_number_in" = true) (k6 : PySem.W.keepIn K (.ref f6) = true)
    (a7 : PySem.W.nsIn K mainGlobals "_law_fraction_in" = some (some (.ref f7))) (l7 : K.lookup f7 = some ⟨oc7, od7, .func (PySem.W.fnOf "_law_fraction_in" "_law_fraction_in" (defArgs s_law_fraction_in) (defBody s_law_fraction_in) (defScope s_law_fraction_in) .none kV7 dc7 pm7 an7 cd7 ct7), sl7⟩) (c7 : PySem.W.codeIn K cd7 "_law_fraction_in" = true) (k7 : PySem.W.keepIn K (.ref f7) = true)
    (a8 : PySem.W.nsIn K mainGlobals "_law_reduced" = some (some (.ref f8))) (l8 : K.lookup f8 = some ⟨oc8, od8, .func (PySem.W.fnOf "_law_reduced" "_law_reduced" (defArgs s_law_reduced) (defBody s_law_reduced) (defScope s_law_reduced) .none kV8 dc8 pm8 an8 cd8 ct8), sl8⟩) (c8 : PySem.W.codeIn K cd8 "_law_reduced" = true) (k8 : PySem.W.keepIn K (.ref f8) = true)
    (a9 : PySem.W.nsIn K mainGlobals "_law_due" = some (some (.ref f9))) (l9 : K.lookup f9 = some ⟨oc9, od9, .func (PySem.W.fnOf "_law_due" "_law_due" (defArgs s_law_due_1) (defBody s_law_due_1) (defScope s_law_due_1) .none kV9 dc9 pm9 an9 cd9 ct9), sl9⟩) (c9 : PySem.W.codeIn K cd9 "_law_due" = true) (k9 : PySem.W.keepIn K (.ref f9) = true)
    (a10 : PySem.W.nsIn K mainGlobals "_law_same" = some (some (.ref f10))) (l10 : K.lookup f10 = some ⟨oc10, od10, .func (PySem.W.fnOf "_law_same" "_law_same" (defArgs s_law_same_2) (defBody s_law_same_2) (defScope s_law_same_2) .none kV10 dc10 pm10 an10 cd10 ct10), sl10⟩) (c10 : PySem.W.codeIn K cd10 "_law_same" = true) (k10 : PySem.W.keepIn K (.ref f10) = true)
    (a11 : PySem.W.nsIn K mainGlobals "_law_flags" = some (some (.ref f11))) (l11 : K.lookup f11 = some ⟨oc11, od11, .func (PySem.W.fnOf "_law_flags" "_law_flags" (defArgs s_law_flags) (defBody s_law_flags) (defScope s_law_flags) .none kV11 dc11 pm11 an11 cd11 ct11), sl11⟩) (c11 : PySem.W.codeIn K cd11 "_law_flags" = true) (k11 : PySem.W.keepIn K (.ref f11) = true)
    (a12 : PySem.W.nsIn K mainGlobals "figures_read" = some (some (.ref f12))) (l12 : K.lookup f12 = some ⟨oc12, od12, .func (PySem.W.fnOf "figures_read" "figures_read" (defArgs s_figures_read_x) (defBody s_figures_read_x) (defScope s_figures_read_x) .none kV12 dc12 pm12 an12 cd12 ct12), sl12⟩) (c12 : PySem.W.codeIn K cd12 "figures_read" = true) (k12 : PySem.W.keepIn K (.ref f12) = true)
    (a13 : PySem.W.nsIn K mainGlobals "fraction_read" = some (some (.ref f13))) (l13 : K.lookup f13 = some ⟨oc13, od13, .func (PySem.W.fnOf "fraction_read" "fraction_read" (defArgs s_fraction_read_x) (defBody s_fraction_read_x) (defScope s_fraction_read_x) .none kV13 dc13 pm13 an13 cd13 ct13), sl13⟩) (c13 : PySem.W.codeIn K cd13 "fraction_read" = true) (k13 : PySem.W.keepIn K (.ref f13) = true)
    (a14 : PySem.W.nsIn K mainGlobals "in_least" = some (some (.ref f14))) (l14 : K.lookup f14 = some ⟨oc14, od14, .func (PySem.W.fnOf "in_least" "in_least" (defArgs s_in_least) (defBody s_in_least) (defScope s_in_least) .none kV14 dc14 pm14 an14 cd14 ct14), sl14⟩) (c14 : PySem.W.codeIn K cd14 "in_least" = true) (k14 : PySem.W.keepIn K (.ref f14) = true)
    (a15 : PySem.W.nsIn K mainGlobals "need_asking" = some (some (.ref f15))) (l15 : K.lookup f15 = some ⟨oc15, od15, .func (PySem.W.fnOf "need_asking" "need_asking" (defArgs s_need_asking_x) (defBody s_need_asking_x) (defScope s_need_asking_x) .none kV15 dc15 pm15 an15 cd15 ct15), sl15⟩) (c15 : PySem.W.codeIn K cd15 "need_asking" = true) (k15 : PySem.W.keepIn K (.ref f15) = true)
    (a16 : PySem.W.nsIn K mainGlobals "read_asking" = some (some (.ref f16))) (l16 : K.lookup f16 = some ⟨oc16, od16, .func (PySem.W.fnOf "read_asking" "read_asking" (defArgs s_read_asking_x) (defBody s_read_asking_x) (defScope s_read_asking_x) .none kV16 dc16 pm16 an16 cd16 ct16), sl16⟩) (c16 : PySem.W.codeIn K cd16 "read_asking" = true) (k16 : PySem.W.keepIn K (.ref f16) = true)
    (a17 : PySem.W.nsIn K mainGlobals "_law_told" = some (some (.ref f17))) (l17 : K.lookup f17 = some ⟨oc17, od17, .func (PySem.W.fnOf "_law_told" "_law_told" (defArgs s_law_told_1) (defBody s_law_told_1) (defScope s_law_told_1) .none kV17 dc17 pm17 an17 cd17 ct17), sl17⟩) (c17 : PySem.W.codeIn K cd17 "_law_told" = true) (k17 : PySem.W.keepIn K (.ref f17) = true)
    (a18 : PySem.W.nsIn K mainGlobals "_law_right" = some (some (.ref f18))) (l18 : K.lookup f18 = some ⟨oc18, od18, .func (PySem.W.fnOf "_law_right" "_law_right" (defArgs s_law_right_1) (defBody s_law_right_1) (defScope s_law_right_1) .none kV18 dc18 pm18 an18 cd18 ct18), sl18⟩) (c18 : PySem.W.codeIn K cd18 "_law_right" = true) (k18 : PySem.W.keepIn K (.ref f18) = true)
    (a19 : PySem.W.nsIn K mainGlobals "_law_sign" = some (some (.ref f19))) (l19 : K.lookup f19 = some ⟨oc19, od19, .func (PySem.W.fnOf "_law_sign" "_law_sign" (defArgs s_law_sign) (defBody s_law_sign) (defScope s_law_sign) .none kV19 dc19 pm19 an19 cd19 ct19), sl19⟩) (c19 : PySem.W.codeIn K cd19 "_law_sign" = true) (k19 : PySem.W.keepIn K (.ref f19) = true)
    (a20 : PySem.W.nsIn K mainGlobals "_law_spoilt" = some (some (.ref f20))) (l20 : K.lookup f20 = some ⟨oc20, od20, .func (PySem.W.fnOf "_law_spoilt" "_law_spoilt" (defArgs s_law_spoilt_1) (defBody s_law_spoilt_1) (defScope s_law_spoilt_1) .none kV20 dc20 pm20 an20 cd20 ct20), sl20⟩) (c20 : PySem.W.codeIn K cd20 "_law_spoilt" = true) (k20 : PySem.W.keepIn K (.ref f20) = true)
    (a21 : PySem.W.nsIn K mainGlobals "law" = some (some (.ref f21))) (l21 : K.lookup f21 = some ⟨oc21, od21, .func (PySem.W.fnOf "law" "law" (defArgs s_law_4) (defBody s_law_4) (defScope s_law_4) .none kV21 dc21 pm21 an21 cd21 ct21), sl21⟩) (c21 : PySem.W.codeIn K cd21 "law" = true) (k21 : PySem.W.keepIn K (.ref f21) = true)
    (z_abs : PySem.W.nsIn K mainGlobals "abs" = some none)
    (z_bool : PySem.W.nsIn K mainGlobals "bool" = some none)
    (z_int : PySem.W.nsIn K mainGlobals "int" = some none)
    (z_isinstance : PySem.W.nsIn K mainGlobals "isinstance" = some none)
    (z_len : PySem.W.nsIn K mainGlobals "len" = some none)
    (z_list : PySem.W.nsIn K mainGlobals "list" = some none)
    (z_max : PySem.W.nsIn K mainGlobals "max" = some none)
    (z_range : PySem.W.nsIn K mainGlobals "range" = some none)
    (z_str : PySem.W.nsIn K mainGlobals "str" = some none)
    (z_sum : PySem.W.nsIn K mainGlobals "sum" = some none)
    (z_tuple : PySem.W.nsIn K mainGlobals "tuple" = some none)
    (z_zip : PySem.W.nsIn K mainGlobals "zip" = some none)
    {tk_FIGURES : Tok} (g_FIGURES : PySem.W.nsIn K mainGlobals "FIGURES" = some (some (.str "0123456789" tk_FIGURES)))
    {e_NoAsking : Addr} (n_NoAsking : PySem.W.nsIn K mainGlobals "NoAsking" = some (some (.ref e_NoAsking))) (hd_NoAsking : PySem.W.hasDictIn K e_NoAsking = true) (t_NoAsking : PySem.W.typeIn K (.ref e_NoAsking) = some (.type "type")) (b_NoAsking : PySem.W.subIn K (.ref e_NoAsking) (.type "BaseException") = some true)
    {e_NoNumber : Addr} (n_NoNumber : PySem.W.nsIn K mainGlobals "NoNumber" = some (some (.ref e_NoNumber))) (hd_NoNumber : PySem.W.hasDictIn K e_NoNumber = true) (t_NoNumber : PySem.W.typeIn K (.ref e_NoNumber) = some (.type "type")) (b_NoNumber : PySem.W.subIn K (.ref e_NoNumber) (.type "BaseException") = some true)
    {e_NoText : Addr} (n_NoText : PySem.W.nsIn K mainGlobals "NoText" = some (some (.ref e_NoText))) (hd_NoText : PySem.W.hasDictIn K e_NoText = true) (t_NoText : PySem.W.typeIn K (.ref e_NoText) = some (.type "type")) (b_NoText : PySem.W.subIn K (.ref e_NoText) (.type "BaseException") = some true)
    {e_NoLattice : Addr} (n_NoLattice : PySem.W.nsIn K mainGlobals "NoLattice" = some (some (.ref e_NoLattice))) (hd_NoLattice : PySem.W.hasDictIn K e_NoLattice = true) (t_NoLattice : PySem.W.typeIn K (.ref e_NoLattice) = some (.type "type")) (b_NoLattice : PySem.W.subIn K (.ref e_NoLattice) (.type "BaseException") = some true)
    {e_NoAsk : Addr} (n_NoAsk : PySem.W.nsIn K mainGlobals "NoAsk" = some (some (.ref e_NoAsk))) (hd_NoAsk : PySem.W.hasDictIn K e_NoAsk = true) (t_NoAsk : PySem.W.typeIn K (.ref e_NoAsk) = some (.type "type")) (b_NoAsk : PySem.W.subIn K (.ref e_NoAsk) (.type "BaseException") = some true)
    {e_UnderError : Addr} (n_UnderError : PySem.W.nsIn K mainGlobals "UnderError" = some (some (.ref e_UnderError))) (hd_UnderError : PySem.W.hasDictIn K e_UnderError = true) (t_UnderError : PySem.W.typeIn K (.ref e_UnderError) = some (.type "type")) (b_UnderError : PySem.W.subIn K (.ref e_UnderError) (.type "BaseException") = some true)
    (hn : PySem.W.specialIn K (.builtin "object.__class__") "__get__" = some (some (.builtin "getset_descriptor.__get__"))) (ht : PySem.W.takesIn K (.builtin "object.__class__") = some true) (z_ValueError : PySem.W.nsIn K mainGlobals "ValueError" = some none)
    (x_NoAsking : PySem.W.excIn K e_NoAsking [.type "ValueError", .type "Exception", .type "BaseException", .type "object"] "ValueError.__new__" = true) (k_NoAsking : PySem.W.keepIn K (.ref e_NoAsking) = true) (hg_NoAsking : PySem.W.findIn K (.ref e_NoAsking) "__getattribute__" = some (some (.builtin "BaseException.__getattribute__"))) (hk_NoAsking : PySem.W.findIn K (.ref e_NoAsking) "__getattr__" = some none) (ha_NoAsking : PySem.W.findIn K (.ref e_NoAsking) "__class__" = some (some (.builtin "object.__class__"))) (hm_NoAsking : PySem.W.mroIn K e_NoAsking (.type "object") = some true) (v_NoAsking : PySem.W.subIn K (.ref e_NoAsking) (.type "ValueError") = some true)
    (s_NoAsking_NoAsking : PySem.W.subIn K (.ref e_NoAsking) (.ref e_NoAsking) = some true)
    (s_NoAsking_NoNumber : PySem.W.subIn K (.ref e_NoAsking) (.ref e_NoNumber) = some false)
    (s_NoAsking_NoText : PySem.W.subIn K (.ref e_NoAsking) (.ref e_NoText) = some false)
    (s_NoAsking_NoLattice : PySem.W.subIn K (.ref e_NoAsking) (.ref e_NoLattice) = some false)
    (s_NoAsking_NoAsk : PySem.W.subIn K (.ref e_NoAsking) (.ref e_NoAsk) = some false)
    (s_NoAsking_UnderError : PySem.W.subIn K (.ref e_NoAsking) (.ref e_UnderError) = some true)
    (x_NoNumber : PySem.W.excIn K e_NoNumber [.type "ValueError", .type "Exception", .type "BaseException", .type "object"] "ValueError.__new__" = true) (k_NoNumber : PySem.W.keepIn K (.ref e_NoNumber) = true) (hg_NoNumber : PySem.W.findIn K (.ref e_NoNumber) "__getattribute__" = some (some (.builtin "BaseException.__getattribute__"))) (hk_NoNumber : PySem.W.findIn K (.ref e_NoNumber) "__getattr__" = some none) (ha_NoNumber : PySem.W.findIn K (.ref e_NoNumber) "__class__" = some (some (.builtin "object.__class__"))) (hm_NoNumber : PySem.W.mroIn K e_NoNumber (.type "object") = some true) (v_NoNumber : PySem.W.subIn K (.ref e_NoNumber) (.type "ValueError") = some true)
    (s_NoNumber_NoAsking : PySem.W.subIn K (.ref e_NoNumber) (.ref e_NoAsking) = some false)
    (s_NoNumber_NoNumber : PySem.W.subIn K (.ref e_NoNumber) (.ref e_NoNumber) = some true)
    (s_NoNumber_NoText : PySem.W.subIn K (.ref e_NoNumber) (.ref e_NoText) = some false)
    (s_NoNumber_NoLattice : PySem.W.subIn K (.ref e_NoNumber) (.ref e_NoLattice) = some false)
    (s_NoNumber_NoAsk : PySem.W.subIn K (.ref e_NoNumber) (.ref e_NoAsk) = some false)
    (s_NoNumber_UnderError : PySem.W.subIn K (.ref e_NoNumber) (.ref e_UnderError) = some true)
    (x_NoText : PySem.W.excIn K e_NoText [.type "ValueError", .type "Exception", .type "BaseException", .type "object"] "ValueError.__new__" = true) (k_NoText : PySem.W.keepIn K (.ref e_NoText) = true) (hg_NoText : PySem.W.findIn K (.ref e_NoText) "__getattribute__" = some (some (.builtin "BaseException.__getattribute__"))) (hk_NoText : PySem.W.findIn K (.ref e_NoText) "__getattr__" = some none) (ha_NoText : PySem.W.findIn K (.ref e_NoText) "__class__" = some (some (.builtin "object.__class__"))) (hm_NoText : PySem.W.mroIn K e_NoText (.type "object") = some true) (v_NoText : PySem.W.subIn K (.ref e_NoText) (.type "ValueError") = some true)
    (s_NoText_NoAsking : PySem.W.subIn K (.ref e_NoText) (.ref e_NoAsking) = some false)
    (s_NoText_NoNumber : PySem.W.subIn K (.ref e_NoText) (.ref e_NoNumber) = some false)
    (s_NoText_NoText : PySem.W.subIn K (.ref e_NoText) (.ref e_NoText) = some true)
    (s_NoText_NoLattice : PySem.W.subIn K (.ref e_NoText) (.ref e_NoLattice) = some false)
    (s_NoText_NoAsk : PySem.W.subIn K (.ref e_NoText) (.ref e_NoAsk) = some false)
    (s_NoText_UnderError : PySem.W.subIn K (.ref e_NoText) (.ref e_UnderError) = some true)
    (x_NoLattice : PySem.W.excIn K e_NoLattice [.type "ValueError", .type "Exception", .type "BaseException", .type "object"] "ValueError.__new__" = true) (k_NoLattice : PySem.W.keepIn K (.ref e_NoLattice) = true) (hg_NoLattice : PySem.W.findIn K (.ref e_NoLattice) "__getattribute__" = some (some (.builtin "BaseException.__getattribute__"))) (hk_NoLattice : PySem.W.findIn K (.ref e_NoLattice) "__getattr__" = some none) (ha_NoLattice : PySem.W.findIn K (.ref e_NoLattice) "__class__" = some (some (.builtin "object.__class__"))) (hm_NoLattice : PySem.W.mroIn K e_NoLattice (.type "object") = some true) (v_NoLattice : PySem.W.subIn K (.ref e_NoLattice) (.type "ValueError") = some true)
    (s_NoLattice_NoAsking : PySem.W.subIn K (.ref e_NoLattice) (.ref e_NoAsking) = some false)
    (s_NoLattice_NoNumber : PySem.W.subIn K (.ref e_NoLattice) (.ref e_NoNumber) = some false)
    (s_NoLattice_NoText : PySem.W.subIn K (.ref e_NoLattice) (.ref e_NoText) = some false)
    (s_NoLattice_NoLattice : PySem.W.subIn K (.ref e_NoLattice) (.ref e_NoLattice) = some true)
    (s_NoLattice_NoAsk : PySem.W.subIn K (.ref e_NoLattice) (.ref e_NoAsk) = some false)
    (s_NoLattice_UnderError : PySem.W.subIn K (.ref e_NoLattice) (.ref e_UnderError) = some true)
    (x_NoAsk : PySem.W.excIn K e_NoAsk [.type "ValueError", .type "Exception", .type "BaseException", .type "object"] "ValueError.__new__" = true) (k_NoAsk : PySem.W.keepIn K (.ref e_NoAsk) = true) (hg_NoAsk : PySem.W.findIn K (.ref e_NoAsk) "__getattribute__" = some (some (.builtin "BaseException.__getattribute__"))) (hk_NoAsk : PySem.W.findIn K (.ref e_NoAsk) "__getattr__" = some none) (ha_NoAsk : PySem.W.findIn K (.ref e_NoAsk) "__class__" = some (some (.builtin "object.__class__"))) (hm_NoAsk : PySem.W.mroIn K e_NoAsk (.type "object") = some true) (v_NoAsk : PySem.W.subIn K (.ref e_NoAsk) (.type "ValueError") = some true)
    (s_NoAsk_NoAsking : PySem.W.subIn K (.ref e_NoAsk) (.ref e_NoAsking) = some false)
    (s_NoAsk_NoNumber : PySem.W.subIn K (.ref e_NoAsk) (.ref e_NoNumber) = some false)
    (s_NoAsk_NoText : PySem.W.subIn K (.ref e_NoAsk) (.ref e_NoText) = some false)
    (s_NoAsk_NoLattice : PySem.W.subIn K (.ref e_NoAsk) (.ref e_NoLattice) = some false)
    (s_NoAsk_NoAsk : PySem.W.subIn K (.ref e_NoAsk) (.ref e_NoAsk) = some true)
    (s_NoAsk_UnderError : PySem.W.subIn K (.ref e_NoAsk) (.ref e_UnderError) = some true) :
    ∃ fd : FuncData, (∀ (s : Shared) (v : Value), BindsTo s fd ⟨[v], []⟩ [("_law_script", v)]) ∧ ∀ base : Heap, K.In base → base.Ns mainGlobals mg → FnOk l.prog w K mg base CX0 11 fa fd ["_law_script"] (lift K spLaw) := by
  have e := hfa.symm.trans (PySem.W.mg_of X G a21)
  cases e
  have F0 := fun_mk (st := s_law_take) l0 c0 k0
  have F1 := fun_mk (st := s_law_far) l1 c1 k1
  have F2 := fun_mk (st := s_law_below_1) l2 c2 k2
  have F3 := fun_mk (st := s_law_fraction_1) l3 c3 k3
  have F4 := fun_mk (st := s_law_asking_1) l4 c4 k4
  have F5 := fun_mk (st := s_law_deck) l5 c5 k5
  have F6 := fun_mk (st := s_law_number_in) l6 c6 k6
  have F7 := fun_mk (st := s_law_fraction_in) l7 c7 k7
  have F8 := fun_mk (st := s_law_reduced) l8 c8 k8
  have F9 := fun_mk (st := s_law_due_1) l9 c9 k9
  have F10 := fun_mk (st := s_law_same_2) l10 c10 k10
  have F11 := fun_mk (st := s_law_flags) l11 c11 k11
  have F12 := fun_mk (st := s_figures_read_x) l12 c12 k12
  have F13 := fun_mk (st := s_fraction_read_x) l13 c13 k13
  have F14 := fun_mk (st := s_in_least) l14 c14 k14
  have F15 := fun_mk (st := s_need_asking_x) l15 c15 k15
  have F16 := fun_mk (st := s_read_asking_x) l16 c16 k16
  have F17 := fun_mk (st := s_law_told_1) l17 c17 k17
  have F18 := fun_mk (st := s_law_right_1) l18 c18 k18
  have F19 := fun_mk (st := s_law_sign) l19 c19 k19
  have F20 := fun_mk (st := s_law_spoilt_1) l20 c20 k20
  have F21 := fun_mk (st := s_law_4) l21 c21 k21
  have b0 := F0.binds (ps := ["_law_deck_here", "_law_many"]) fun _ _ _ _ _ _ us hl => match us, hl with | [_, _], _ => rfl
  have m0 := PySem.W.mg_of X G a0
  have b1 := F1.binds (ps := ["_law_deck_here"]) fun _ _ _ _ _ _ us hl => match us, hl with | [_], _ => rfl
  have m1 := PySem.W.mg_of X G a1
  have b2 := F2.binds (ps := ["_law_deck_here"]) fun _ _ _ _ _ _ us hl => match us, hl with | [_], _ => rfl
  have m2 := PySem.W.mg_of X G a2
  have b3 := F3.binds (ps := ["_law_deck_here"]) fun _ _ _ _ _ _ us hl => match us, hl with | [_], _ => rfl
  have m3 := PySem.W.mg_of X G a3
  have b4 := F4.binds (ps := ["_law_deck_here"]) fun _ _ _ _ _ _ us hl => match us, hl with | [_], _ => rfl
  have m4 := PySem.W.mg_of X G a4
  have b5 := F5.binds (ps := ["_law_script"]) fun _ _ _ _ _ _ us hl => match us, hl with | [_], _ => rfl
  have m5 := PySem.W.mg_of X G a5
  have b6 := F6.binds (ps := ["_law_word"]) fun _ _ _ _ _ _ us hl => match us, hl with | [_], _ => rfl
  have m6 := PySem.W.mg_of X G a6
  have b7 := F7.binds (ps := ["_law_word"]) fun _ _ _ _ _ _ us hl => match us, hl with | [_], _ => rfl
  have m7 := PySem.W.mg_of X G a7
  have b8 := F8.binds (ps := ["_law_above", "_law_below_here"]) fun _ _ _ _ _ _ us hl => match us, hl with | [_, _], _ => rfl
  have m8 := PySem.W.mg_of X G a8
  have b9 := F9.binds (ps := ["_law_text"]) fun _ _ _ _ _ _ us hl => match us, hl with | [_], _ => rfl
  have m9 := PySem.W.mg_of X G a9
  have b10 := F10.binds (ps := ["_law_found", "_law_due_here"]) fun _ _ _ _ _ _ us hl => match us, hl with | [_, _], _ => rfl
  have m10 := PySem.W.mg_of X G a10
  have b11 := F11.binds (ps := ["_law_thing"]) fun _ _ _ _ _ _ us hl => match us, hl with | [_], _ => rfl
  have m11 := PySem.W.mg_of X G a11
  have b12 := F12.binds (ps := ["word"]) fun _ _ _ _ _ _ us hl => match us, hl with | [_], _ => rfl
  have m12 := PySem.W.mg_of X G a12
  have b13 := F13.binds (ps := ["word"]) fun _ _ _ _ _ _ us hl => match us, hl with | [_], _ => rfl
  have m13 := PySem.W.mg_of X G a13
  have b14 := F14.binds (ps := ["above", "below"]) fun _ _ _ _ _ _ us hl => match us, hl with | [_, _], _ => rfl
  have m14 := PySem.W.mg_of X G a14
  have b15 := F15.binds (ps := ["asking"]) fun _ _ _ _ _ _ us hl => match us, hl with | [_], _ => rfl
  have m15 := PySem.W.mg_of X G a15
  have b16 := F16.binds (ps := ["text"]) fun _ _ _ _ _ _ us hl => match us, hl with | [_], _ => rfl
  have m16 := PySem.W.mg_of X G a16
  have b17 := F17.binds (ps := ["_law_text"]) fun _ _ _ _ _ _ us hl => match us, hl with | [_], _ => rfl
  have m17 := PySem.W.mg_of X G a17
  have b18 := F18.binds (ps := ["_law_text"]) fun _ _ _ _ _ _ us hl => match us, hl with | [_], _ => rfl
  have m18 := PySem.W.mg_of X G a18
  have b19 := F19.binds (ps := ["_law_deck_here"]) fun _ _ _ _ _ _ us hl => match us, hl with | [_], _ => rfl
  have m19 := PySem.W.mg_of X G a19
  have b20 := F20.binds (ps := ["_law_deck_here", "_law_text"]) fun _ _ _ _ _ _ us hl => match us, hl with | [_, _], _ => rfl
  have m20 := PySem.W.mg_of X G a20
  have B_abs := PySem.W.mg_none_of X G z_abs
  have B_bool := PySem.W.mg_none_of X G z_bool
  have B_int := PySem.W.mg_none_of X G z_int
  have B_isinstance := PySem.W.mg_none_of X G z_isinstance
  have B_len := PySem.W.mg_none_of X G z_len
  have B_list := PySem.W.mg_none_of X G z_list
  have B_max := PySem.W.mg_none_of X G z_max
  have B_range := PySem.W.mg_none_of X G z_range
  have B_str := PySem.W.mg_none_of X G z_str
  have B_sum := PySem.W.mg_none_of X G z_sum
  have B_tuple := PySem.W.mg_none_of X G z_tuple
  have B_zip := PySem.W.mg_none_of X G z_zip
  have GL_FIGURES : ∃ u, mg "FIGURES" = some u ∧ RelV (.str "0123456789") u := ⟨_, PySem.W.mg_of X G g_FIGURES, _, rfl⟩
  have g_NoAsking := PySem.W.mg_of X G n_NoAsking
  have g_NoNumber := PySem.W.mg_of X G n_NoNumber
  have g_NoText := PySem.W.mg_of X G n_NoText
  have g_NoLattice := PySem.W.mg_of X G n_NoLattice
  have g_NoAsk := PySem.W.mg_of X G n_NoAsk
  have g_UnderError := PySem.W.mg_of X G n_UnderError
  have ER : ErrOk K mg := by
    refine ⟨fun n hn2 => ?_, by rw [cOf_eq g_UnderError]; exact g_UnderError, PySem.W.mg_none_of X G z_ValueError⟩
    rcases errN_cases hn2 with rfl | rfl | rfl | rfl | rfl
    · refine errC_of g_NoAsking g_UnderError x_NoAsking k_NoAsking b_NoAsking t_NoAsking hd_NoAsking hg_NoAsking hk_NoAsking ha_NoAsking hn ht hm_NoAsking s_NoAsking_UnderError b_UnderError hd_UnderError t_UnderError s_NoAsking_NoAsking v_NoAsking fun m hm2 => ?_
      rcases hm2 with hm2 | rfl
      · rcases errN_cases hm2 with rfl | rfl | rfl | rfl | rfl
        · exact ⟨_, g_NoAsking, hd_NoAsking, t_NoAsking, s_NoAsking_NoAsking.trans (by decide +kernel)⟩
        · exact ⟨_, g_NoNumber, hd_NoNumber, t_NoNumber, s_NoAsking_NoNumber.trans (by decide +kernel)⟩
        · exact ⟨_, g_NoText, hd_NoText, t_NoText, s_NoAsking_NoText.trans (by decide +kernel)⟩
        · exact ⟨_, g_NoLattice, hd_NoLattice, t_NoLattice, s_NoAsking_NoLattice.trans (by decide +kernel)⟩
        · exact ⟨_, g_NoAsk, hd_NoAsk, t_NoAsk, s_NoAsking_NoAsk.trans (by decide +kernel)⟩
      · exact ⟨_, g_UnderError, hd_UnderError, t_UnderError, s_NoAsking_UnderError.trans (by decide +kernel)⟩
    · refine errC_of g_NoNumber g_UnderError x_NoNumber k_NoNumber b_NoNumber t_NoNumber hd_NoNumber hg_NoNumber hk_NoNumber ha_NoNumber hn ht hm_NoNumber s_NoNumber_UnderError b_UnderError hd_UnderError t_UnderError s_NoNumber_NoNumber v_NoNumber fun m hm2 => ?_
      rcases hm2 with hm2 | rfl
      · rcases errN_cases hm2 with rfl | rfl | rfl | rfl | rfl
        · exact ⟨_, g_NoAsking, hd_NoAsking, t_NoAsking, s_NoNumber_NoAsking.trans (by decide +kernel)⟩
        · exact ⟨_, g_NoNumber, hd_NoNumber, t_NoNumber, s_NoNumber_NoNumber.trans (by decide +kernel)⟩
        · exact ⟨_, g_NoText, hd_NoText, t_NoText, s_NoNumber_NoText.trans (by decide +kernel)⟩
        · exact ⟨_, g_NoLattice, hd_NoLattice, t_NoLattice, s_NoNumber_NoLattice.trans (by decide +kernel)⟩
        · exact ⟨_, g_NoAsk, hd_NoAsk, t_NoAsk, s_NoNumber_NoAsk.trans (by decide +kernel)⟩
      · exact ⟨_, g_UnderError, hd_UnderError, t_UnderError, s_NoNumber_UnderError.trans (by decide +kernel)⟩
    · refine errC_of g_NoText g_UnderError x_NoText k_NoText b_NoText t_NoText hd_NoText hg_NoText hk_NoText ha_NoText hn ht hm_NoText s_NoText_UnderError b_UnderError hd_UnderError t_UnderError s_NoText_NoText v_NoText fun m hm2 => ?_
      rcases hm2 with hm2 | rfl
      · rcases errN_cases hm2 with rfl | rfl | rfl | rfl | rfl
        · exact ⟨_, g_NoAsking, hd_NoAsking, t_NoAsking, s_NoText_NoAsking.trans (by decide +kernel)⟩
        · exact ⟨_, g_NoNumber, hd_NoNumber, t_NoNumber, s_NoText_NoNumber.trans (by decide +kernel)⟩
        · exact ⟨_, g_NoText, hd_NoText, t_NoText, s_NoText_NoText.trans (by decide +kernel)⟩
        · exact ⟨_, g_NoLattice, hd_NoLattice, t_NoLattice, s_NoText_NoLattice.trans (by decide +kernel)⟩
        · exact ⟨_, g_NoAsk, hd_NoAsk, t_NoAsk, s_NoText_NoAsk.trans (by decide +kernel)⟩
      · exact ⟨_, g_UnderError, hd_UnderError, t_UnderError, s_NoText_UnderError.trans (by decide +kernel)⟩
    · refine errC_of g_NoLattice g_UnderError x_NoLattice k_NoLattice b_NoLattice t_NoLattice hd_NoLattice hg_NoLattice hk_NoLattice ha_NoLattice hn ht hm_NoLattice s_NoLattice_UnderError b_UnderError hd_UnderError t_UnderError s_NoLattice_NoLattice v_NoLattice fun m hm2 => ?_
      rcases hm2 with hm2 | rfl
      · rcases errN_cases hm2 with rfl | rfl | rfl | rfl | rfl
        · exact ⟨_, g_NoAsking, hd_NoAsking, t_NoAsking, s_NoLattice_NoAsking.trans (by decide +kernel)⟩
        · exact ⟨_, g_NoNumber, hd_NoNumber, t_NoNumber, s_NoLattice_NoNumber.trans (by decide +kernel)⟩
        · exact ⟨_, g_NoText, hd_NoText, t_NoText, s_NoLattice_NoText.trans (by decide +kernel)⟩
        · exact ⟨_, g_NoLattice, hd_NoLattice, t_NoLattice, s_NoLattice_NoLattice.trans (by decide +kernel)⟩
        · exact ⟨_, g_NoAsk, hd_NoAsk, t_NoAsk, s_NoLattice_NoAsk.trans (by decide +kernel)⟩
      · exact ⟨_, g_UnderError, hd_UnderError, t_UnderError, s_NoLattice_UnderError.trans (by decide +kernel)⟩
    · refine errC_of g_NoAsk g_UnderError x_NoAsk k_NoAsk b_NoAsk t_NoAsk hd_NoAsk hg_NoAsk hk_NoAsk ha_NoAsk hn ht hm_NoAsk s_NoAsk_UnderError b_UnderError hd_UnderError t_UnderError s_NoAsk_NoAsk v_NoAsk fun m hm2 => ?_
      rcases hm2 with hm2 | rfl
      · rcases errN_cases hm2 with rfl | rfl | rfl | rfl | rfl
        · exact ⟨_, g_NoAsking, hd_NoAsking, t_NoAsking, s_NoAsk_NoAsking.trans (by decide +kernel)⟩
        · exact ⟨_, g_NoNumber, hd_NoNumber, t_NoNumber, s_NoAsk_NoNumber.trans (by decide +kernel)⟩
        · exact ⟨_, g_NoText, hd_NoText, t_NoText, s_NoAsk_NoText.trans (by decide +kernel)⟩
        · exact ⟨_, g_NoLattice, hd_NoLattice, t_NoLattice, s_NoAsk_NoLattice.trans (by decide +kernel)⟩
        · exact ⟨_, g_NoAsk, hd_NoAsk, t_NoAsk, s_NoAsk_NoAsk.trans (by decide +kernel)⟩
      · exact ⟨_, g_UnderError, hd_UnderError, t_UnderError, s_NoAsk_UnderError.trans (by decide +kernel)⟩
  refine ⟨PySem.W.fnOf "law" "law" (defArgs s_law_4) (defBody s_law_4) (defScope s_law_4) .none kV21 dc21 pm21 an21 cd21 ct21, fun s v => .of_eq rfl, fun base _ _ => ?_⟩
  have C_law_take : Cal l.prog w K mg base "_law_take" 1 ["_law_deck_here", "_law_many"] sp_law_take := ⟨_, _, ok_law_take (k := 0) F0 B_len, m0, k0, b0⟩
  have C_law_far : Cal l.prog w K mg base "_law_far" 2 ["_law_deck_here"] sp_law_far := ⟨_, _, ok_law_far (k := 1) F1 B_range (C_law_take.mono (by decide)), m1, k1, b1⟩
  have C_law_below_1 : Cal l.prog w K mg base "_law_below" 3 ["_law_deck_here"] sp_law_below_1 := ⟨_, _, ok_law_below_1 (k := 2) F2 (C_law_far.mono (by decide)) (C_law_take.mono (by decide)), m2, k2, b2⟩
  have C_law_fraction_1 : Cal l.prog w K mg base "_law_fraction" 4 ["_law_deck_here"] sp_law_fraction_1 := ⟨_, _, ok_law_fraction_1 (k := 3) F3 (C_law_below_1.mono (by decide)) (C_law_far.mono (by decide)) (C_law_take.mono (by decide)), m3, k3, b3⟩
  have C_law_asking_1 : Cal l.prog w K mg base "_law_asking" 5 ["_law_deck_here"] sp_law_asking_1 := ⟨_, _, ok_law_asking_1 (k := 4) F4 B_len B_range B_tuple (C_law_fraction_1.mono (by decide)) (C_law_take.mono (by decide)), m4, k4, b4⟩
  have C_law_deck : Cal l.prog w K mg base "_law_deck" 1 ["_law_script"] sp_law_deck := ⟨_, _, ok_law_deck (k := 0) F5 B_len B_range B_sum, m5, k5, b5⟩
  have C_law_number_in : Cal l.prog w K mg base "_law_number_in" 1 ["_law_word"] sp_law_number_in := ⟨_, _, ok_law_number_in (k := 0) F6 B_int, m6, k6, b6⟩
  have C_law_fraction_in : Cal l.prog w K mg base "_law_fraction_in" 2 ["_law_word"] sp_law_fraction_in := ⟨_, _, ok_law_fraction_in (k := 1) F7 B_int (C_law_number_in.mono (by decide)), m7, k7, b7⟩
  have C_law_reduced : Cal l.prog w K mg base "_law_reduced" 1 ["_law_above", "_law_below_here"] sp_law_reduced := ⟨_, _, ok_law_reduced (k := 0) F8 B_abs, m8, k8, b8⟩
  have C_law_due_1 : Cal l.prog w K mg base "_law_due" 3 ["_law_text"] sp_law_due_1 := ⟨_, _, ok_law_due_1 (k := 2) F9 B_tuple (C_law_fraction_in.mono (by decide)) (C_law_reduced.mono (by decide)), m9, k9, b9⟩
  have C_law_same_2 : Cal l.prog w K mg base "_law_same" 9 ["_law_found", "_law_due_here"] (sp_law_same_2 8) := ⟨_, _, okn_law_same_2 (k := 0) F10 m10 k10 b10 B_bool B_int B_isinstance B_len B_list B_str B_tuple B_zip (fun _ _ _ h => z0_law_same_2 h) 8, m10, k10, b10⟩
  have C_law_flags : Cal l.prog w K mg base "_law_flags" 1 ["_law_thing"] (sp_law_flags (cOf mg)) := ⟨_, _, ok_law_flags (k := 0) F11 B_isinstance ER, m11, k11, b11⟩
  have C_figures_read_x : CalX l.prog w K mg base "figures_read" 1 ["word"] (sp_figures_read_x (cOf mg)) := ⟨_, _, ok_figures_read_x (k := 0) F12 B_int GL_FIGURES ER, m12, k12, b12⟩
  have C_fraction_read_x : CalX l.prog w K mg base "fraction_read" 2 ["word"] (sp_fraction_read_x (cOf mg)) := ⟨_, _, ok_fraction_read_x (k := 1) F13 B_len (C_figures_read_x.mono (by decide)) ER, m13, k13, b13⟩
  have C_in_least : Cal l.prog w K mg base "in_least" 1 ["above", "below"] sp_in_least := ⟨_, _, ok_in_least (k := 0) F14 B_abs, m14, k14, b14⟩
  have C_need_asking_x : CalX l.prog w K mg base "need_asking" 1 ["asking"] (sp_need_asking_x (cOf mg)) := ⟨_, _, ok_need_asking_x (k := 0) F15 ER, m15, k15, b15⟩
  have C_read_asking_x : CalX l.prog w K mg base "read_asking" 3 ["text"] (sp_read_asking_x (cOf mg)) := ⟨_, _, ok_read_asking_x (k := 2) F16 B_tuple (C_fraction_read_x.mono (by decide)) (C_in_least.mono (by decide)) (C_need_asking_x.mono (by decide)) ER, m16, k16, b16⟩
  have C_law_told_1 : Cal l.prog w K mg base "_law_told" 4 ["_law_text"] sp_law_told_1 := ⟨_, _, ok_law_told_1 (k := 3) F17 B_int B_range (C_law_flags.mono (by decide)) (C_read_asking_x.mono (by decide)) ER, m17, k17, b17⟩
  have C_law_right_1 : Cal l.prog w K mg base "_law_right" 10 ["_law_text"] sp_law_right_1 := ⟨_, _, ok_law_right_1 (k := 9) F18 B_int B_len B_max B_sum (C_law_due_1.mono (by decide)) (C_law_same_2.mono (by decide)) (C_law_told_1.mono (by decide)), m18, k18, b18⟩
  have C_law_sign : Cal l.prog w K mg base "_law_sign" 2 ["_law_deck_here"] sp_law_sign := ⟨_, _, ok_law_sign (k := 1) F19 B_len (C_law_take.mono (by decide)), m19, k19, b19⟩
  have C_law_spoilt_1 : Cal l.prog w K mg base "_law_spoilt" 3 ["_law_deck_here", "_law_text"] sp_law_spoilt_1 := ⟨_, _, ok_law_spoilt_1 (k := 2) F20 B_len (C_law_sign.mono (by decide)) (C_law_take.mono (by decide)), m20, k20, b20⟩
  exact ok_law_4 (k := 10) F21 B_range B_str (C_law_asking_1.mono (by decide)) (C_law_deck.mono (by decide)) (C_law_right_1.mono (by decide)) (C_law_sign.mono (by decide)) (C_law_spoilt_1.mono (by decide)) (C_law_take.mono (by decide))
end K_k04
open PySem PySem.W PyProof.Rows
set_option maxHeartbeats 0 in
theorem PySem.Challenge.cw_underone_k04_texts_of_no_askings_holds : PySem.Challenge.rw_underone_k04_texts_of_no_askings.Holds := by
  w_on; o_law; k_head; (case hw => w_witness2)
  k_fill
  refine L2.walk_of (l := PySem.Challenge.rw_underone_k04_texts_of_no_askings) (n := 63) (k := 11) (x := "_law_script") (CX := fun _ => L2.CX0) (sp := fun w => L3.lift _ L3.spLaw) rfl (by decide) rfl ⟨rfl, by decide, by decide⟩ (fun w h Y => PySem.W.kIn_of Y) ?F (fun _ H a ns hl _ hS => L3.spLaw_of H a ns hl hS) (fun _ _ _ _ _ h => h)
  case F =>
    intro w mg fa h KX G hmg
    refine' K_k04.all_mk KX G hmg ?a0 ?l0 ?c0 ?k0 ?a1 ?l1 ?c1 ?k1 ?a2 ?l2 ?c2 ?k2 ?a3 ?l3 ?c3 ?k3 ?a4 ?l4 ?c4 ?k4 ?a5 ?l5 ?c5 ?k5 ?a6 ?l6 ?c6 ?k6 ?a7 ?l7 ?c7 ?k7 ?a8 ?l8 ?c8 ?k8 ?a9 ?l9 ?c9 ?k9 ?a10 ?l10 ?c10 ?k10 ?a11 ?l11 ?c11 ?k11 ?a12 ?l12 ?c12 ?k12 ?a13 ?l13 ?c13 ?k13 ?a14 ?l14 ?c14 ?k14 ?a15 ?l15 ?c15 ?k15 ?a16 ?l16 ?c16 ?k16 ?a17 ?l17 ?c17 ?k17 ?a18 ?l18 ?c18 ?k18 ?a19 ?l19 ?c19 ?k19 ?a20 ?l20 ?c20 ?k20 ?a21 ?l21 ?c21 ?k21 ?z_abs ?z_bool ?z_int ?z_isinstance ?z_len ?z_list ?z_max ?z_range ?z_str ?z_sum ?z_tuple ?z_zip ?g_FIGURES ?n_NoAsking ?hd_NoAsking ?t_NoAsking ?b_NoAsking ?n_NoNumber ?hd_NoNumber ?t_NoNumber ?b_NoNumber ?n_NoText ?hd_NoText ?t_NoText ?b_NoText ?n_NoLattice ?hd_NoLattice ?t_NoLattice ?b_NoLattice ?n_NoAsk ?hd_NoAsk ?t_NoAsk ?b_NoAsk ?n_UnderError ?hd_UnderError ?t_UnderError ?b_UnderError ?hn ?ht ?z_ValueError ?x_NoAsking ?k_NoAsking ?hg_NoAsking ?hk_NoAsking ?ha_NoAsking ?hm_NoAsking ?v_NoAsking ?s_NoAsking_NoAsking ?s_NoAsking_NoNumber ?s_NoAsking_NoText ?s_NoAsking_NoLattice ?s_NoAsking_NoAsk ?s_NoAsking_UnderError ?x_NoNumber ?k_NoNumber ?hg_NoNumber ?hk_NoNumber ?ha_NoNumber ?hm_NoNumber ?v_NoNumber ?s_NoNumber_NoAsking ?s_NoNumber_NoNumber ?s_NoNumber_NoText ?s_NoNumber_NoLattice ?s_NoNumber_NoAsk ?s_NoNumber_UnderError ?x_NoText ?k_NoText ?hg_NoText ?hk_NoText ?ha_NoText ?hm_NoText ?v_NoText ?s_NoText_NoAsking ?s_NoText_NoNumber ?s_NoText_NoText ?s_NoText_NoLattice ?s_NoText_NoAsk ?s_NoText_UnderError ?x_NoLattice ?k_NoLattice ?hg_NoLattice ?hk_NoLattice ?ha_NoLattice ?hm_NoLattice ?v_NoLattice ?s_NoLattice_NoAsking ?s_NoLattice_NoNumber ?s_NoLattice_NoText ?s_NoLattice_NoLattice ?s_NoLattice_NoAsk ?s_NoLattice_UnderError ?x_NoAsk ?k_NoAsk ?hg_NoAsk ?hk_NoAsk ?ha_NoAsk ?hm_NoAsk ?v_NoAsk ?s_NoAsk_NoAsking ?s_NoAsk_NoNumber ?s_NoAsk_NoText ?s_NoAsk_NoLattice ?s_NoAsk_NoAsk ?s_NoAsk_UnderError
    (case a0 => k_is); (case l0 => k_is); (case c0 => k_is); (case k0 => k_is); (case a1 => k_is); (case l1 => k_is); (case c1 => k_is); (case k1 => k_is); (case a2 => k_is); (case l2 => k_is); (case c2 => k_is); (case k2 => k_is); (case a3 => k_is); (case l3 => k_is); (case c3 => k_is); (case k3 => k_is); (case a4 => k_is); (case l4 => k_is); (case c4 => k_is); (case k4 => k_is); (case a5 => k_is); (case l5 => k_is); (case c5 => k_is); (case k5 => k_is); (case a6 => k_is); (case l6 => k_is); (case c6 => k_is); (case k6 => k_is); (case a7 => k_is); (case l7 => k_is); (case c7 => k_is); (case k7 => k_is); (case a8 => k_is); (case l8 => k_is); (case c8 => k_is); (case k8 => k_is); (case a9 => k_is); (case l9 => k_is); (case c9 => k_is); (case k9 => k_is); (case a10 => k_is); (case l10 => k_is); (case c10 => k_is); (case k10 => k_is); (case a11 => k_is); (case l11 => k_is); (case c11 => k_is); (case k11 => k_is); (case a12 => k_is); (case l12 => k_is); (case c12 => k_is); (case k12 => k_is); (case a13 => k_is); (case l13 => k_is); (case c13 => k_is); (case k13 => k_is); (case a14 => k_is); (case l14 => k_is); (case c14 => k_is); (case k14 => k_is); (case a15 => k_is); (case l15 => k_is); (case c15 => k_is); (case k15 => k_is); (case a16 => k_is); (case l16 => k_is); (case c16 => k_is); (case k16 => k_is); (case a17 => k_is); (case l17 => k_is); (case c17 => k_is); (case k17 => k_is); (case a18 => k_is); (case l18 => k_is); (case c18 => k_is); (case k18 => k_is); (case a19 => k_is); (case l19 => k_is); (case c19 => k_is); (case k19 => k_is); (case a20 => k_is); (case l20 => k_is); (case c20 => k_is); (case k20 => k_is); (case a21 => k_is); (case l21 => k_is); (case c21 => k_is); (case k21 => k_is); (case z_abs => k_is); (case z_bool => k_is); (case z_int => k_is); (case z_isinstance => k_is); (case z_len => k_is); (case z_list => k_is); (case z_max => k_is); (case z_range => k_is); (case z_str => k_is); (case z_sum => k_is); (case z_tuple => k_is); (case z_zip => k_is); (case g_FIGURES => k_is); (case n_NoAsking => k_is); (case hd_NoAsking => k_is); (case t_NoAsking => k_is); (case b_NoAsking => k_is); (case n_NoNumber => k_is); (case hd_NoNumber => k_is); (case t_NoNumber => k_is); (case b_NoNumber => k_is); (case n_NoText => k_is); (case hd_NoText => k_is); (case t_NoText => k_is); (case b_NoText => k_is); (case n_NoLattice => k_is); (case hd_NoLattice => k_is); (case t_NoLattice => k_is); (case b_NoLattice => k_is); (case n_NoAsk => k_is); (case hd_NoAsk => k_is); (case t_NoAsk => k_is); (case b_NoAsk => k_is); (case n_UnderError => k_is); (case hd_UnderError => k_is); (case t_UnderError => k_is); (case b_UnderError => k_is); (case hn => k_is); (case ht => k_is); (case z_ValueError => k_is); (case x_NoAsking => k_exc); (case k_NoAsking => k_is); (case hg_NoAsking => k_is); (case hk_NoAsking => k_is); (case ha_NoAsking => k_is); (case hm_NoAsking => k_is); (case v_NoAsking => k_is); (case s_NoAsking_NoAsking => k_is); (case s_NoAsking_NoNumber => k_is); (case s_NoAsking_NoText => k_is); (case s_NoAsking_NoLattice => k_is); (case s_NoAsking_NoAsk => k_is); (case s_NoAsking_UnderError => k_is); (case x_NoNumber => k_exc); (case k_NoNumber => k_is); (case hg_NoNumber => k_is); (case hk_NoNumber => k_is); (case ha_NoNumber => k_is); (case hm_NoNumber => k_is); (case v_NoNumber => k_is); (case s_NoNumber_NoAsking => k_is); (case s_NoNumber_NoNumber => k_is); (case s_NoNumber_NoText => k_is); (case s_NoNumber_NoLattice => k_is); (case s_NoNumber_NoAsk => k_is); (case s_NoNumber_UnderError => k_is); (case x_NoText => k_exc); (case k_NoText => k_is); (case hg_NoText => k_is); (case hk_NoText => k_is); (case ha_NoText => k_is); (case hm_NoText => k_is); (case v_NoText => k_is); (case s_NoText_NoAsking => k_is); (case s_NoText_NoNumber => k_is); (case s_NoText_NoText => k_is); (case s_NoText_NoLattice => k_is); (case s_NoText_NoAsk => k_is); (case s_NoText_UnderError => k_is); (case x_NoLattice => k_exc); (case k_NoLattice => k_is); (case hg_NoLattice => k_is); (case hk_NoLattice => k_is); (case ha_NoLattice => k_is); (case hm_NoLattice => k_is); (case v_NoLattice => k_is); (case s_NoLattice_NoAsking => k_is); (case s_NoLattice_NoNumber => k_is); (case s_NoLattice_NoText => k_is); (case s_NoLattice_NoLattice => k_is); (case s_NoLattice_NoAsk => k_is); (case s_NoLattice_UnderError => k_is); (case x_NoAsk => k_exc); (case k_NoAsk => k_is); (case hg_NoAsk => k_is); (case hk_NoAsk => k_is); (case ha_NoAsk => k_is); (case hm_NoAsk => k_is); (case v_NoAsk => k_is); (case s_NoAsk_NoAsking => k_is); (case s_NoAsk_NoNumber => k_is); (case s_NoAsk_NoText => k_is); (case s_NoAsk_NoLattice => k_is); (case s_NoAsk_NoAsk => k_is); (case s_NoAsk_UnderError => k_is)
