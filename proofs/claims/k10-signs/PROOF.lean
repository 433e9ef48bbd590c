import PyProof.Rows.All
import Wide.All
import OpenK.AllK
import Wide.FinOn
import HandS.ForMost
import HandS.Flow
import HandS.Wide
import HandS.Style
import HandS.IsInst
import PySem.Challenge.RW_grassnake_k10_signs
set_option Elab.async false
set_option linter.all false
set_option maxRecDepth 100000
/-! MP: a small world of data (D), objects (Ob) and a store; mirrors of Python code as functions over these; and that the code does what its mirror tells. -/
namespace MP
open PySem PySem.Spec PyProof.Rows L2

/-- data: None, truths, numbers, texts (their codes), tuples, and what is an object of the store -/
inductive D where
  | non
  | bl (b : Bool)
  | int (i : Int)
  | str (l : List Nat)
  | tup (ds : List D)
  | ref (n : Nat)
/-- objects: a list, a list that is only read, a dict by ints and texts, an instance of a class -/
inductive Ob where
  | lst (ds : List D)
  | fz (ds : List D)
  | dic (kvs : List (Key × D))
  | ins (c : Nat) (fs : List (Str × D))
abbrev Sto := List Ob
def mkS (l : List Nat) : Str := ⟨l.toArray⟩
theorem mkS_len (l : List Nat) : (mkS l).length = l.length := by simp [mkS, Str.length]
theorem mkS_tl (l : List Nat) : (mkS l).cps.toList = l := rfl
theorem mkS_inj {l m : List Nat} (h : mkS l = mkS m) : l = m := by
  have := congrArg (fun s : Str => s.cps.toList) h
  exact this
theorem mkS_of (z : Str) : mkS z.cps.toList = z := by
  cases z
  rfl

/-- the signs of a text are signs -/
def okS (l : List Nat) : Bool := l.all fun c => decide (c < 1114112)
theorem okS_mem {l : List Nat} (h : okS l = true) : ∀ c ∈ l, c < 1114112 := fun c hc => of_decide_eq_true (List.all_eq_true.mp h c hc)
theorem okS_of {l : List Nat} (h : ∀ c ∈ l, c < 1114112) : okS l = true := List.all_eq_true.mpr fun c hc => decide_eq_true (h c hc)
theorem okS_app {l m : List Nat} (h : okS l = true) (h2 : okS m = true) : okS (l ++ m) = true := okS_of fun c hc => (List.mem_append.mp hc).elim (okS_mem h c) (okS_mem h2 c)
theorem okS_sub {l m : List Nat} (h : okS l = true) (s : ∀ c ∈ m, c ∈ l) : okS m = true := okS_of fun c hc => okS_mem h c (s c hc)

/-! ### data and values -/
mutual
inductive VR (K : PySem.W.Frag) (as : List Addr) (H : Hp) : D → V → Prop
  | non : VR K as H .non .non
  | bl (b : Bool) : VR K as H (.bl b) (.bl b)
  | int (i : Int) : VR K as H (.int i) (.int i)
  | str {l : List Nat} : okS l = true → VR K as H (.str l) (.str (mkS l))
  | tup {a : Addr} {xs : List V} {ds : List D} : SqT K H a xs → VRs K as H ds xs → VR K as H (.tup ds) (.ref a)
  | ref {n : Nat} {a : Addr} : as[n]? = some a → VR K as H (.ref n) (.ref a)
inductive VRs (K : PySem.W.Frag) (as : List Addr) (H : Hp) : List D → List V → Prop
  | nil : VRs K as H [] []
  | cons {d : D} {ds : List D} {v : V} {vs : List V} : VR K as H d v → VRs K as H ds vs → VRs K as H (d :: ds) (v :: vs)
end

/-- the heap has grown, or what changes in it has changed -/
structure Ext (K : PySem.W.Frag) (as : List Addr) (H : Hp) (as' : List Addr) (H' : Hp) : Prop where
  pre : ∃ m, as' = as ++ m
  tup : ∀ a xs, SqT K H a xs → SqT K H' a xs
section
variable {K : PySem.W.Frag} {as as' as'' : List Addr} {H H' H'' : Hp} {d : D} {v : V} {ds : List D} {vs : List V}
theorem Ext.refl : Ext K as H as H := ⟨⟨[], by simp⟩, fun _ _ h => h⟩
theorem Ext.trans (a : Ext K as H as' H') (b : Ext K as' H' as'' H'') : Ext K as H as'' H'' := by
  obtain ⟨m, e⟩ := a.pre
  obtain ⟨n, e2⟩ := b.pre
  exact ⟨⟨m ++ n, by rw [e2, e, List.append_assoc]⟩, fun x xs h => b.tup x xs (a.tup x xs h)⟩
theorem Ext.at (x : Ext K as H as' H') {n : Nat} {a : Addr} (h : as[n]? = some a) : as'[n]? = some a := by
  obtain ⟨m, e⟩ := x.pre
  rw [e, List.getElem?_append_left (List.getElem?_eq_some_iff.mp h).1]
  exact h
mutual
theorem VR.mono (x : Ext K as H as' H') : ∀ {d : D} {v : V}, VR K as H d v → VR K as' H' d v
  | _, _, .non => .non
  | _, _, .bl b => .bl b
  | _, _, .int i => .int i
  | _, _, .str h => .str h
  | _, _, .tup h r => .tup (x.tup _ _ h) (VRs.mono x r)
  | _, _, .ref h => .ref (x.at h)
theorem VRs.mono (x : Ext K as H as' H') : ∀ {ds : List D} {vs : List V}, VRs K as H ds vs → VRs K as' H' ds vs
  | _, _, .nil => .nil
  | _, _, .cons a b => .cons (VR.mono x a) (VRs.mono x b)
end
theorem VRs.length : ∀ {ds : List D} {vs : List V}, VRs K as H ds vs → ds.length = vs.length
  | _, _, .nil => rfl
  | _, _, .cons _ t => by rw [List.length_cons, List.length_cons, t.length]
theorem VRs.get : ∀ {ds : List D} {vs : List V} {i : Nat} {d : D}, VRs K as H ds vs → ds[i]? = some d → ∃ v, vs[i]? = some v ∧ VR K as H d v
  | _, _, _, _, .nil, e => by simp at e
  | _, _, 0, _, .cons r _, e => by
    simp at e
    subst e
    exact ⟨_, rfl, r⟩
  | _, _, i + 1, d, .cons _ t, e => by
    obtain ⟨u, h1, h2⟩ := VRs.get (i := i) (d := d) t (by simpa using e)
    exact ⟨u, by simpa using h1, h2⟩
theorem VRs.set {d : D} {v : V} (r : VR K as H d v) : ∀ {ds : List D} {vs : List V} (i : Nat), VRs K as H ds vs → VRs K as H (ds.set i d) (vs.set i v)
  | _, _, _, .nil => .nil
  | _, _, 0, .cons _ t => .cons r t
  | _, _, i + 1, .cons q t => .cons q (VRs.set r i t)
theorem VRs.append : ∀ {ds es : List D} {vs ws : List V}, VRs K as H ds vs → VRs K as H es ws → VRs K as H (ds ++ es) (vs ++ ws)
  | _, _, _, _, .nil, s => s
  | _, _, _, _, .cons r t, s => .cons r (VRs.append t s)
theorem VRs.take : ∀ {ds : List D} {vs : List V} (n : Nat), VRs K as H ds vs → VRs K as H (ds.take n) (vs.take n)
  | _, _, 0, _ => .nil
  | _, _, _ + 1, .nil => .nil
  | _, _, n + 1, .cons r t => .cons r (VRs.take n t)
theorem VRs.drop : ∀ {ds : List D} {vs : List V} (n : Nat), VRs K as H ds vs → VRs K as H (ds.drop n) (vs.drop n)
  | _, _, 0, r => r
  | _, _, _ + 1, .nil => .nil
  | _, _, n + 1, .cons _ t => VRs.drop n t
theorem VRs.dropLast {ds : List D} {vs : List V} (h : VRs K as H ds vs) : VRs K as H ds.dropLast vs.dropLast := by
  rw [List.dropLast_eq_take, List.dropLast_eq_take, h.length]
  exact h.take _
theorem VRs.isEmpty {ds : List D} {vs : List V} (h : VRs K as H ds vs) : ds.isEmpty = vs.isEmpty := by
  cases h <;> rfl
theorem VRs.ints : ∀ (ns : List Int), VRs K as H (ns.map D.int) (ns.map V.int)
  | [] => .nil
  | n :: r => .cons (.int n) (VRs.ints r)
end

/-! ### objects -/
/-- the classes' addresses -/
abbrev Cad := Nat → Addr
def ObR (K : PySem.W.Frag) (cad : Cad) (as : List Addr) (H : Hp) (a : Addr) : Ob → Prop
  | .lst ds => ∃ xs, H a = some (.lst xs) ∧ VRs K as H ds xs
  | .fz ds => ∃ xs, ((∃ o, H a = some (.frz o (.lst xs))) ∨ ∀ H', SqL K H' a xs) ∧ VRs K as H ds xs
  | .dic kvs => ∃ xs, H a = some (.dK xs) ∧ Paired (fun (p : Key × D) (q : Key × V) => p.1 = q.1 ∧ VR K as H p.2 q.2) kvs xs
  | .ins c fs => ∃ dx xs, H a = some (.ins (cad c) dx xs) ∧ Paired (fun (p : Str × D) (q : Str × V) => p.1 = q.1 ∧ VR K as H p.2 q.2) fs xs
def Ob.own : Ob → Bool
  | .fz _ => false
  | _ => true
structure Rel (K : PySem.W.Frag) (cad : Cad) (as : List Addr) (st : Sto) (H : Hp) : Prop where
  len : as.length = st.length
  inj : ∀ (i j : Nat) (a : Addr) (o u : Ob), as[i]? = some a → as[j]? = some a → st[i]? = some o → st[j]? = some u → o.own = true → u.own = true → i = j
  ob : ∀ (n : Nat) (o : Ob) (a : Addr), st[n]? = some o → as[n]? = some a → ObR K cad as H a o
section
variable {K : PySem.W.Frag} {cad : Cad} {as as' : List Addr} {st : Sto} {H H' : Hp} {a p : Addr} {o : Ob} {n : Nat}
theorem Paired.map2 {α β : Type} {F G : α → β → Prop} (f : ∀ a b, F a b → G a b) : ∀ {l₁ : List α} {l₂ : List β}, Paired F l₁ l₂ → Paired G l₁ l₂
  | _, _, .nil => .nil
  | _, _, .cons r t => .cons (f _ _ r) (Paired.map2 f t)
/-- what stands at a stays -/
theorem ObR.mono (x : Ext K as H as' H') (h : ObR K cad as H a o) (e : o.own = true → H' a = H a) (f : ∀ u xs, H a = some (.frz u (.lst xs)) → H' a = some (.frz u (.lst xs))) : ObR K cad as' H' a o := by
  cases o with
  | lst ds =>
    obtain ⟨xs, q, r⟩ := h
    exact ⟨xs, (e rfl).trans q, r.mono x⟩
  | fz ds =>
    obtain ⟨xs, q, r⟩ := h
    refine ⟨xs, ?_, r.mono x⟩
    rcases q with ⟨u, q⟩ | q
    · exact .inl ⟨u, f u xs q⟩
    · exact .inr q
  | dic kvs =>
    obtain ⟨xs, q, r⟩ := h
    exact ⟨xs, (e rfl).trans q, Paired.map2 (fun _ _ z => ⟨z.1, z.2.mono x⟩) r⟩
  | ins c fs =>
    obtain ⟨dx, xs, q, r⟩ := h
    exact ⟨dx, xs, (e rfl).trans q, Paired.map2 (fun _ _ z => ⟨z.1, z.2.mono x⟩) r⟩
/-- an own object is tracked, and it is no tuple, and not locked -/
theorem ObR.there (h : ObR K cad as H a o) (w : o.own = true) : ∃ u, H a = some u ∧ (∀ xs, u ≠ .tup xs) ∧ ∀ ob x, u ≠ .frz ob x := by
  cases o with
  | lst ds =>
    obtain ⟨xs, q, _⟩ := h
    exact ⟨_, q, (fun _ z => by cases z), (fun _ _ z => by cases z)⟩
  | fz ds => cases w
  | dic kvs =>
    obtain ⟨xs, q, _⟩ := h
    exact ⟨_, q, (fun _ z => by cases z), (fun _ _ z => by cases z)⟩
  | ins c fs =>
    obtain ⟨dx, xs, q, _⟩ := h
    exact ⟨_, q, (fun _ z => by cases z), (fun _ _ z => by cases z)⟩
theorem sqT_fresh {u : HO} {xs : List V} (hp : H p = none) (h : SqT K H a xs) : SqT K (upd H p u) a xs := by
  rcases h with (h | ⟨ob, h⟩) | h
  · exact .inl (.inl (by rw [upd_ne (ne_of_none h hp)]; exact h))
  · exact .inl (.inr ⟨ob, by rw [upd_ne (ne_of_none h hp)]; exact h⟩)
  · exact .inr h
theorem sqT_write {u w : HO} {xs : List V} (hp : H p = some w) (h1 : ∀ xs, w ≠ .tup xs) (h2 : ∀ ob x, w ≠ .frz ob x) (h : SqT K H a xs) : SqT K (upd H p u) a xs := by
  rcases h with (h | ⟨ob, h⟩) | h
  · exact .inl (.inl (by rw [upd_ne (ne_of h hp (fun z => h1 xs z.symm))]; exact h))
  · exact .inl (.inr ⟨ob, by rw [upd_ne (ne_of h hp (fun z => h2 _ _ z.symm))]; exact h⟩)
  · exact .inr h
theorem Ext.fresh {u : HO} (hp : H p = none) : Ext K as H as (upd H p u) := ⟨⟨[], by simp⟩, fun _ _ h => sqT_fresh hp h⟩
theorem Ext.fresh1 {u : HO} (hp : H p = none) : Ext K as H (as ++ [p]) (upd H p u) := ⟨⟨[p], rfl⟩, fun _ _ h => sqT_fresh hp h⟩
theorem ObR.fresh {u : HO} (x : Ext K as H as' (upd H p u)) (hp : H p = none) (h : ObR K cad as H a o) : ObR K cad as' (upd H p u) a o := by
  refine h.mono x (fun w => ?_) (fun ob xs q => ?_)
  · obtain ⟨v, q, _⟩ := h.there w
    rw [upd_ne (ne_of_none q hp)]
  · rw [upd_ne (ne_of_none q hp)]
    exact q
/-- a new thing that is no object of the store (a tuple, say) -/
theorem Rel.fresh {u : HO} (R : Rel K cad as st H) (hp : H p = none) : Rel K cad as st (upd H p u) :=
  ⟨R.len, R.inj, fun n o a h1 h2 => (R.ob n o a h1 h2).fresh (Ext.fresh hp) hp⟩
/-- a new object -/
theorem Rel.new {u : HO} (R : Rel K cad as st H) (hp : H p = none) (h : ObR K cad (as ++ [p]) (upd H p u) p o) : Rel K cad (as ++ [p]) (st ++ [o]) (upd H p u) := by
  have old : ∀ (i : Nat) (b : Addr), (as ++ [p])[i]? = some b → (as[i]? = some b ∧ i < as.length) ∨ (i = as.length ∧ b = p) := fun i b h => by
    by_cases hi : i < as.length
    · rw [List.getElem?_append_left hi] at h
      exact .inl ⟨h, hi⟩
    · by_cases he : i = as.length
      · subst he
        simp at h
        exact .inr ⟨rfl, h.symm⟩
      · rw [List.getElem?_eq_none (by simp; omega)] at h
        cases h
  have tn : ∀ (i : Nat) (w : Ob), i < as.length → (st ++ [o])[i]? = some w → st[i]? = some w := fun i w hi h => by
    rw [List.getElem?_append_left (by rw [← R.len]; exact hi)] at h
    exact h
  have nop : ∀ (i : Nat) (w : Ob), as[i]? = some p → st[i]? = some w → w.own = true → False := fun i w h1 h2 h3 => by
    obtain ⟨v, q, _⟩ := (R.ob i w p h2 h1).there h3
    rw [hp] at q
    cases q
  refine ⟨by simp [R.len], fun i j b w z h1 h2 h3 h4 h5 h6 => ?_, fun n w b h1 h2 => ?_⟩
  · rcases old i b h1 with ⟨a1, l1⟩ | ⟨rfl, rfl⟩
    · rcases old j b h2 with ⟨a2, l2⟩ | ⟨rfl, rfl⟩
      · exact R.inj i j b w z a1 a2 (tn i w l1 h3) (tn j z l2 h4) h5 h6
      · exact (nop i w a1 (tn i w l1 h3) h5).elim
    · rcases old j b h2 with ⟨a2, l2⟩ | ⟨rfl, _⟩
      · exact (nop j z a2 (tn j z l2 h4) h6).elim
      · rfl
  · rcases old n b h2 with ⟨a2, l2⟩ | ⟨rfl, rfl⟩
    · exact (R.ob n w b (tn n w l2 h1) a2).fresh (Ext.fresh1 hp) hp
    · rw [R.len] at h1
      simp at h1
      subst h1
      exact h
/-- an object changed -/
theorem Rel.write {u : HO} {o' : Ob} (R : Rel K cad as st H) (hn : st[n]? = some o) (ha : as[n]? = some a) (w : o.own = true) (w' : o'.own = true) (h : ObR K cad as (upd H a u) a o') :
    Rel K cad as (st.set n o') (upd H a u) ∧ Ext K as H as (upd H a u) := by
  obtain ⟨v, q, q1, q2⟩ := (R.ob n o a hn ha).there w
  have x : Ext K as H as (upd H a u) := ⟨⟨[], by simp⟩, fun b xs h => sqT_write q q1 q2 h⟩
  have ln : n < st.length := (List.getElem?_eq_some_iff.mp hn).1
  refine ⟨⟨by simp [R.len], fun i j b z t h1 h2 h3 h4 h5 h6 => ?_, fun m z b h1 h2 => ?_⟩, x⟩
  · have g : ∀ (k : Nat) (z : Ob), (st.set n o')[k]? = some z → z.own = true → ∃ z', st[k]? = some z' ∧ z'.own = true := fun k z h1 h2 => by
      by_cases hk : k = n
      · subst hk
        exact ⟨o, hn, w⟩
      · rw [List.getElem?_set_ne (Ne.symm hk)] at h1
        exact ⟨z, h1, h2⟩
    obtain ⟨z', e1, e2⟩ := g i z h3 h5
    obtain ⟨t', e3, e4⟩ := g j t h4 h6
    exact R.inj i j b z' t' h1 h2 e1 e3 e2 e4
  · by_cases hm : m = n
    · subst hm
      rw [List.getElem?_set_self ln] at h1
      cases h1
      rw [ha] at h2
      cases h2
      exact h
    · rw [List.getElem?_set_ne (Ne.symm hm)] at h1
      refine (R.ob m z b h1 h2).mono x (fun wz => ?_) (fun ob xs q' => ?_)
      · have nb : b ≠ a := fun e => by
          subst e
          exact hm (R.inj m n b z o h2 ha h1 hn wz w)
        rw [upd_ne nb]
      · rw [upd_ne (ne_of q' q (fun e => q2 _ _ e.symm))]
        exact q'
theorem Rel.at (R : Rel K cad as st H) (h : st[n]? = some o) : ∃ a, as[n]? = some a := by
  have l : n < as.length := by
    rw [R.len]
    exact (List.getElem?_eq_some_iff.mp h).1
  exact ⟨as[n], List.getElem?_eq_getElem l⟩
theorem Rel.at' (R : Rel K cad as st H) (h : as[n]? = some a) : ∃ o, st[n]? = some o := by
  have l : n < st.length := by
    rw [← R.len]
    exact (List.getElem?_eq_some_iff.mp h).1
  exact ⟨st[n], List.getElem?_eq_getElem l⟩
end

/-! ### what is told: values, lists of values, truths -/
abbrev Rho := List (Option D)
abbrev ME := Rho → Sto → Option (D × Sto)
abbrev MA := Rho → Sto → Option (List D × Sto)
abbrev MT := Rho → Sto → Option (Bool × Sto)
def ER (K : PySem.W.Frag) (as : List Addr) (H : Hp) (ρ : Rho) (σ : L2.St) : Prop := ρ.length = σ.length ∧ ∀ (i : Nat) (d : D), ρ[i]? = some (some d) → ∃ v, σ[i]? = some (some v) ∧ VR K as H d v
def Post (K : PySem.W.Frag) (cad : Cad) (as : List Addr) (H : Hp) (st' : Sto) (d : D) (Q : VK) : Prop :=
  ∀ (as' : List Addr) (H' : Hp) (v : V), Ext K as H as' H' → Rel K cad as' st' H' → VR K as' H' d v → Q v H'
def PostA (K : PySem.W.Frag) (cad : Cad) (as : List Addr) (H : Hp) (st' : Sto) (ds : List D) (Q : List V → Hp → Prop) : Prop :=
  ∀ (as' : List Addr) (H' : Hp) (vs : List V), Ext K as H as' H' → Rel K cad as' st' H' → VRs K as' H' ds vs → Q vs H'
def PostT (K : PySem.W.Frag) (cad : Cad) (as : List Addr) (H : Hp) (st' : Sto) (b : Bool) (Q : Bool → Hp → Prop) : Prop :=
  ∀ (as' : List Addr) (H' : Hp), Ext K as H as' H' → Rel K cad as' st' H' → Q b H'
def tI (K : PySem.W.Frag) (cad : Cad) (f : ME) : TE := fun σ H Q => ∃ as st ρ d st', Rel K cad as st H ∧ ER K as H ρ σ ∧ f ρ st = some (d, st') ∧ Post K cad as H st' d Q
def tIA (K : PySem.W.Frag) (cad : Cad) (f : MA) : TA := fun σ H Q => ∃ as st ρ ds st', Rel K cad as st H ∧ ER K as H ρ σ ∧ f ρ st = some (ds, st') ∧ PostA K cad as H st' ds Q
def tIT (K : PySem.W.Frag) (cad : Cad) (f : MT) : TT := fun σ H Q => ∃ as st ρ b st', Rel K cad as st H ∧ ER K as H ρ σ ∧ f ρ st = some (b, st') ∧ PostT K cad as H st' b Q
def IE (X : Cx) (cad : Cad) (e : Expr) (f : ME) : Prop := PE X e (tI X.K cad f)
def IA (X : Cx) (cad : Cad) (es : List Expr) (f : MA) : Prop := PA X es (tIA X.K cad f)
def IT (X : Cx) (cad : Cad) (e : Expr) (f : MT) : Prop := PT X e (tIT X.K cad f)

section
variable {X : Cx} {e : Expr} {es : List Expr}
theorem pe_weak {t t' : TE} (h : PE X e t) (w : ∀ σ H Q, t' σ H Q → t σ H Q) : PE X e t' := ⟨fun pins s σ H Q I q => h.run pins s σ H Q I (w σ H Q q)⟩
theorem pa_weak {t t' : TA} (h : PA X es t) (w : ∀ σ H Q, t' σ H Q → t σ H Q) : PA X es t' := ⟨fun pos pins s σ H Q I q => h.run pos pins s σ H Q I (w σ H Q q)⟩
theorem pt_weak {t t' : TT} (h : PT X e t) (w : ∀ σ H Q, t' σ H Q → t σ H Q) : PT X e t' := ⟨fun pins s σ H Q I q => h.run pins s σ H Q I (w σ H Q q)⟩
theorem pw_weak {t t' : TT} (h : PW X e t) (w : ∀ σ H Q, t' σ H Q → t σ H Q) : PW X e t' := ⟨fun wh pins s σ H Q I q => h.run wh pins s σ H Q I (w σ H Q q)⟩
end
section
variable {K : PySem.W.Frag} {cad : Cad} {as as' : List Addr} {st : Sto} {H H' : Hp} {ρ : Rho} {σ : L2.St} {d : D} {v : V}
theorem ER.mono (x : Ext K as H as' H') (h : ER K as H ρ σ) : ER K as' H' ρ σ := ⟨h.1, fun i d e => by
  obtain ⟨v, e1, r⟩ := h.2 i d e
  exact ⟨v, e1, r.mono x⟩⟩
theorem ER.set {i : Nat} (h : ER K as H ρ σ) (r : VR K as H d v) : ER K as H (ρ.set i (some d)) (σ.set i (some v)) := by
  refine ⟨by simp [h.1], fun j d' e => ?_⟩
  by_cases hj : j = i
  · subst hj
    by_cases hl : j < ρ.length
    · rw [List.getElem?_set_self hl] at e
      cases e
      exact ⟨v, List.getElem?_set_self (by rw [← h.1]; exact hl), r⟩
    · rw [List.getElem?_eq_none (by simpa using hl)] at e
      cases e
  · rw [List.getElem?_set_ne (Ne.symm hj)] at e
    obtain ⟨v', e1, r'⟩ := h.2 j d' e
    exact ⟨v', by rw [List.getElem?_set_ne (Ne.symm hj)]; exact e1, r'⟩
end
end MP

set_option maxRecDepth 100000
/-! MP 2: expressions. -/
namespace MP
open PySem PySem.Spec PyProof.Rows L2

/-- lists and texts are at most so long -/
def LIM : Nat := 16000000
theorem lim_ok {n : Nat} (h : n ≤ LIM) : n ≤ sizeLine := by
  rw [sizeLine_eq]
  unfold LIM at h
  omega
theorem lim_lt {n : Nat} (h : n < LIM) : n < sizeLine := by
  rw [sizeLine_eq]
  unfold LIM at h
  omega

section
variable {K : PySem.W.Frag} {cad : Cad} {as : List Addr} {st st' : Sto} {H : Hp} {d : D} {Q : VK}
theorem Post.now (P : Post K cad as H st d Q) (R : Rel K cad as st H) {v : V} (r : VR K as H d v) : Q v H := P as H v .refl R r
theorem Post.ext {as1 : List Addr} {H1 : Hp} (P : Post K cad as H st' d Q) (x : Ext K as H as1 H1) : Post K cad as1 H1 st' d Q := fun as' H' v y R r => P as' H' v (x.trans y) R r
theorem PostA.ext {as1 : List Addr} {H1 : Hp} {ds : List D} {Q : List V → Hp → Prop} (P : PostA K cad as H st' ds Q) (x : Ext K as H as1 H1) : PostA K cad as1 H1 st' ds Q := fun as' H' v y R r => P as' H' v (x.trans y) R r
theorem PostT.ext {as1 : List Addr} {H1 : Hp} {b : Bool} {Q : Bool → Hp → Prop} (P : PostT K cad as H st' b Q) (x : Ext K as H as1 H1) : PostT K cad as1 H1 st' b Q := fun as' H' y R => P as' H' (x.trans y) R
/-- a new tuple -/
theorem Post.tup {ds : List D} {xs : List V} {p : Addr} (P : Post K cad as H st (.tup ds) Q) (R : Rel K cad as st H) (r : VRs K as H ds xs) (hp : H p = none) : Q (.ref p) (upd H p (.tup xs)) :=
  P as _ _ (Ext.fresh hp) (R.fresh hp) (.tup (.inl (.inl upd_same)) (r.mono (Ext.fresh hp)))
/-- a new list -/
theorem Post.lst {ds : List D} {xs : List V} {p : Addr} (P : Post K cad as H (st ++ [.lst ds]) (.ref st.length) Q) (R : Rel K cad as st H) (r : VRs K as H ds xs) (hp : H p = none) : Q (.ref p) (upd H p (.lst xs)) :=
  P _ _ _ (Ext.fresh1 hp) (R.new hp ⟨xs, upd_same, r.mono (Ext.fresh1 hp)⟩) (.ref (by rw [← R.len]; simp))
theorem Post.dic {p : Addr} (P : Post K cad as H (st ++ [.dic []]) (.ref st.length) Q) (R : Rel K cad as st H) (hp : H p = none) : Q (.ref p) (upd H p (.dK [])) :=
  P _ _ _ (Ext.fresh1 hp) (R.new hp ⟨[], upd_same, .nil⟩) (.ref (by rw [← R.len]; simp))
/-- a list of the store, read -/
def rdL (st : Sto) (n : Nat) : Option (List D) := match st[n]? with
  | some (.lst ds) => some ds
  | some (.fz ds) => some ds
  | _ => none
theorem Rel.rdL {n : Nat} {a : Addr} {ds : List D} (R : Rel K cad as st H) (h : rdL st n = some ds) (ha : as[n]? = some a) : ∃ xs, SqL K H a xs ∧ VRs K as H ds xs := by
  unfold MP.rdL at h
  split at h
  · rename_i es e
    cases h
    obtain ⟨xs, q, r⟩ := R.ob n _ a e ha
    exact ⟨xs, .of q, r⟩
  · rename_i es e
    cases h
    obtain ⟨xs, q, r⟩ := R.ob n _ a e ha
    rcases q with ⟨o, q⟩ | q
    · exact ⟨xs, .inl (.inr ⟨o, q⟩), r⟩
    · exact ⟨xs, q H, r⟩
  · cases h
/-- a list of ours -/
def myL (st : Sto) (n : Nat) : Option (List D) := match st[n]? with
  | some (.lst ds) => some ds
  | _ => none
theorem myL_at {n : Nat} {ds : List D} (h : myL st n = some ds) : st[n]? = some (.lst ds) := by
  unfold MP.myL at h
  split at h
  · rename_i es e
    cases h
    exact e
  · cases h
theorem Rel.myL {n : Nat} {a : Addr} {ds : List D} (R : Rel K cad as st H) (h : myL st n = some ds) (ha : as[n]? = some a) : ∃ xs, H a = some (.lst xs) ∧ VRs K as H ds xs := R.ob n _ a (myL_at h) ha
end

/-! ### names, constants -/
def eVar (i : Nat) : ME := fun ρ st => match ρ[i]? with
  | some (some d) => some (d, st)
  | _ => none
def eC (d : D) : ME := fun _ st => some (d, st)
section
variable {X : Cx} {cad : Cad} {e a b c : Expr} {f g h : ME} {pos : Pos}
theorem ie_var {i : Nat} (h : PE X e (tVar i)) : IE X cad e (eVar i) := by
  refine pe_weak h fun σ H Q => ?_
  rintro ⟨as, st, ρ, d, st', R, E, q, P⟩
  unfold eVar at q
  split at q
  · rename_i d' e'
    cases q
    obtain ⟨v, e1, r⟩ := E.2 i _ e'
    exact ⟨v, e1, P.now R r⟩
  · cases q
theorem ie_c {d : D} {v : V} (h : PE X e (tC v)) (r : ∀ as H, VR X.K as H d v) : IE X cad e (eC d) := by
  refine pe_weak h fun σ H Q => ?_
  rintro ⟨as, st, ρ, d', st', R, E, q, P⟩
  cases q
  exact P.now R (r as H)
theorem ie_int {i : Int} {j} : IE X cad (.Constant (.int i) j pos) (eC (.int i)) := ie_c pe_int fun _ _ => .int i
theorem ie_bl {i : Bool} {j} : IE X cad (.Constant (.bool i) j pos) (eC (.bl i)) := ie_c pe_bl fun _ _ => .bl i
theorem ie_non {j} : IE X cad (.Constant .none j pos) (eC .non) := ie_c pe_non fun _ _ => .non
theorem ie_str {x : Str} {l : List Nat} {j} (hx : x.cps.toList = l ∧ okS l = true) : IE X cad (.Constant (.str x) j pos) (eC (.str l)) := ie_c pe_str fun as H => by
  obtain ⟨hx, ho⟩ := hx
  subst hx
  have := VR.str (K := X.K) (as := as) (H := H) ho
  rw [mkS_of] at this
  exact this
/-- a constant of the module -/
theorem ie_gint {x : Str} {i : Int} {t : Tok} (hg : Gl X x) (hm : X.mg x = some (.int i t)) (hd : (x == ("__debug__" : Str)) = false := by decide) : IE X cad (.Name x pos) (eC (.int i)) := ie_c (pe_glob (v := .int i) hg hm ⟨t, rfl⟩ hd) fun _ _ => .int i
theorem ie_gstr {x z : Str} {l : List Nat} {t : Tok} (hg : Gl X x) (hm : X.mg x = some (.str z t)) (hx : z.cps.toList = l ∧ okS l = true) (hd : (x == ("__debug__" : Str)) = false := by decide) : IE X cad (.Name x pos) (eC (.str l)) := ie_c (pe_glob (v := .str z) hg hm ⟨t, rfl⟩ hd) fun as H => by
  obtain ⟨hx, ho⟩ := hx
  subst hx
  have := VR.str (K := X.K) (as := as) (H := H) ho
  rw [mkS_of] at this
  exact this
end

/-! ### two-place operations -/
abbrev O2 := D → D → Sto → Option (D × Sto)
def OpD (K : PySem.W.Frag) (cad : Cad) (r : R2) (o : O2) : Prop :=
  ∀ (as : List Addr) (st : Sto) (H : Hp) (x y : D) (v w : V) (d : D) (st' : Sto) (Q : VK), Rel K cad as st H → VR K as H x v → VR K as H y w → o x y st = some (d, st') → Post K cad as H st' d Q → r v w H Q
def eBin (o : O2) (f g : ME) : ME := fun ρ st => (f ρ st).bind fun p => (g ρ p.2).bind fun q => o p.1 q.1 q.2
theorem bind_some {α β : Type} {o : Option α} {k : α → Option β} {b : β} (h : o.bind k = some b) : ∃ a, o = some a ∧ k a = some b := by
  cases o with
  | none => cases h
  | some a => exact ⟨a, rfl, h⟩
section
variable {X : Cx} {cad : Cad} {e a b c : Expr} {f g h : ME} {pos : Pos}
theorem tI_run {K : PySem.W.Frag} {cad : Cad} {as : List Addr} {st st' : Sto} {H : Hp} {ρ : Rho} {σ : L2.St} {f : ME} {d : D} {Q : VK} (R : Rel K cad as st H) (E : ER K as H ρ σ) (e : f ρ st = some (d, st'))
    (P : ∀ as' H' v, Ext K as H as' H' → Rel K cad as' st' H' → ER K as' H' ρ σ → VR K as' H' d v → Q v H') : tI K cad f σ H Q :=
  ⟨as, st, ρ, d, st', R, E, e, fun as' H' v x R' r => P as' H' v x R' (E.mono x) r⟩
theorem tI_op {r : R2} {o : O2} {K : PySem.W.Frag} (hr : OpD K cad r o) {σ : L2.St} {H : Hp} {Q : VK} (hw : tI K cad (eBin o f g) σ H Q) : tOp r (tI K cad f) (tI K cad g) σ H Q := by
  obtain ⟨as, st, ρ, d, st', R, E, q, P⟩ := hw
  obtain ⟨⟨x, st1⟩, e1, q⟩ := bind_some q
  obtain ⟨⟨y, st2⟩, e2, q⟩ := bind_some q
  exact tI_run R E e1 fun as1 H1 v x1 R1 E1 r1 => tI_run R1 E1 e2 fun as2 H2 w x2 R2 E2 r2 => hr as2 st2 H2 x y v w d st' Q R2 (r1.mono x2) r2 q (P.ext (x1.trans x2))
theorem ie_bin {op : Operator} {r : R2} {o : O2} (ho : OpR X (binaryOp op) r) (hd : OpD X.K cad r o) (ha : IE X cad a f) (hb : IE X cad b g) : IE X cad (.BinOp a op b pos) (eBin o f g) :=
  pe_weak (pe_op ho ha hb) fun _ _ _ => tI_op hd
theorem OpD.or1 {K : PySem.W.Frag} {r r' : R2} {o : O2} (h : OpD K cad r o) : OpD K cad (fun x y H Q => r x y H Q ∨ r' x y H Q) o := fun as st H x y v w d st' Q R r1 r2 e P => .inl (h as st H x y v w d st' Q R r1 r2 e P)
theorem OpD.or2 {K : PySem.W.Frag} {r r' : R2} {o : O2} (h : OpD K cad r' o) : OpD K cad (fun x y H Q => r x y H Q ∨ r' x y H Q) o := fun as st H x y v w d st' Q R r1 r2 e P => .inr (h as st H x y v w d st' Q R r1 r2 e P)

/-! ### + -/
def opAdd : O2 := fun x y st => match x, y with
  | .int i, .int j => some (.int (i + j), st)
  | .int i, .bl k => some (.int (i + b2i k), st)
  | .str l, .str m => if l.length + m.length ≤ LIM then some (.str (l ++ m), st) else none
  | .tup l, .tup m => if l ≠ [] ∧ l.length + m.length ≤ LIM then some (.tup (l ++ m), st) else none
  | .ref k, .ref n => match myL st k, myL st n with
    | some l, some m => if l.length + m.length ≤ LIM then some (.ref st.length, st ++ [.lst (l ++ m)]) else none
    | _, _ => none
  | _, _ => none
def rAddA (K : PySem.W.Frag) : R2 := fun x y H Q => (∃ i j, x = .int i ∧ y = .int j ∧ Q (.int (i + j)) H) ∨ (∃ i k, x = .int i ∧ y = .bl k ∧ Q (.int (i + b2i k)) H) ∨
  (∃ i j, x = .str i ∧ y = .str j ∧ i.length + j.length ≤ sizeLine ∧ Q (.str (i ++ j)) H) ∨ rCatT K x y H Q ∨ rCat x y H Q
theorem op_addA : OpR X (binaryOp .Add) (rAddA X.K) := op_add.or (op_add_ib.or (op_add_str.or (op_catT.or op_cat)))
theorem mkS_app (l m : List Nat) : mkS l ++ mkS m = mkS (l ++ m) := by
  rw [← mkS_of (mkS l ++ mkS m)]
  congr 1
  exact TL.tl_append _ _
theorem od_add {K : PySem.W.Frag} : OpD K cad (rAddA K) opAdd := by
  intro as st H x y v w d st' Q R r1 r2 e P
  cases r1 with
  | non => cases r2 <;> cases e
  | bl b => cases r2 <;> cases e
  | int i =>
    cases r2 with
    | int j => cases e; exact .inl ⟨i, j, rfl, rfl, P.now R (.int _)⟩
    | bl k => cases e; exact .inr (.inl ⟨i, k, rfl, rfl, P.now R (.int _)⟩)
    | _ => cases e
  | @str l hl1 =>
    cases r2 with
    | @str m hl2 =>
      simp only [opAdd] at e
      split at e
      · cases e
        rename_i hl
        refine .inr (.inr (.inl ⟨_, _, rfl, rfl, ?_, ?_⟩))
        · rw [mkS_len, mkS_len]
          exact lim_ok hl
        · rw [mkS_app]
          exact P.now R (.str (okS_app hl1 hl2))
      · cases e
    | _ => cases e
  | @tup a xs ds hs rs =>
    cases r2 with
    | @tup b ys es hs2 rs2 =>
      simp only [opAdd] at e
      split at e
      · cases e
        rename_i hl
        refine .inr (.inr (.inr (.inl ⟨a, b, xs, ys, rfl, rfl, hs, hs2, ?_, ?_, fun hy => ?_, fun _ p hp => ?_⟩)))
        · intro z
          subst z
          cases rs
          exact hl.1 rfl
        · rw [← rs.length, ← rs2.length]
          exact lim_ok hl.2
        · subst hy
          cases rs2
          rw [List.append_nil] at P
          exact P.now R (.tup hs rs)
        · exact P.tup R (rs.append rs2) hp
      · cases e
    | _ => cases e
  | @ref n a ha =>
    cases r2 with
    | @ref m b hb =>
      simp only [opAdd] at e
      split at e
      · rename_i l l' e1 e2
        split at e
        · cases e
          rename_i hl
          obtain ⟨xs, q1, r1⟩ := R.myL e1 ha
          obtain ⟨ys, q2, r2⟩ := R.myL e2 hb
          refine .inr (.inr (.inr (.inr ⟨a, b, xs, ys, rfl, rfl, q1, q2, ?_, fun p hp => ?_⟩)))
          · rw [← r1.length, ← r2.length]
            exact lim_ok hl
          · exact P.lst R (r1.append r2) hp
        · cases e
      · cases e
    | _ => cases e
theorem ie_add (ha : IE X cad a f) (hb : IE X cad b g) : IE X cad (.BinOp a .Add b pos) (eBin opAdd f g) := ie_bin op_addA od_add ha hb

/-! ### ints -/
def opI (C : Int → Int → Bool) (G : Int → Int → Int) : O2 := fun x y st => match x, y with
  | .int i, .int j => if C i j then some (.int (G i j), st) else none
  | _, _ => none
theorem od_I {K : PySem.W.Frag} {C : Int → Int → Bool} {C' : Int → Int → Prop} {G : Int → Int → Int} (h : ∀ i j, C i j = true → C' i j) : OpD K cad (rI C' fun i j => .int (G i j)) (opI C G) := by
  intro as st H x y v w d st' Q R r1 r2 e P
  cases r1 with
  | int i =>
    cases r2 with
    | int j =>
      simp only [opI] at e
      split at e
      · cases e
        rename_i hc
        exact ⟨i, j, rfl, rfl, h i j hc, P.now R (.int _)⟩
      · cases e
    | _ => cases e
  | _ => cases r2 <;> cases e
theorem rI0_I {f : Value → Value → Sem Value} {G : Int → Int → V} (h : OpR X f (rI0 G)) : OpR X f (rI (fun _ _ => True) G) := fun pins s σ H x y v u Q I rx ry ⟨i, j, e1, e2, _, q⟩ => h pins s σ H x y v u Q I rx ry ⟨i, j, e1, e2, q⟩
def cT : Int → Int → Bool := fun _ _ => true
def opSub : O2 := opI cT fun i j => i - j
theorem ie_sub (ha : IE X cad a f) (hb : IE X cad b g) : IE X cad (.BinOp a .Sub b pos) (eBin opSub f g) := ie_bin (rI0_I op_sub) (od_I fun _ _ _ => True.intro) ha hb
/-- a divisor that isn't 0, and not too great -/
def cDiv (_ j : Int) : Bool := decide (j ≠ 0 ∧ j.natAbs.log2 < 9000)
def gDiv (i j : Int) : Int := if 0 < j then i / j else i.fdiv j
def gMod (i j : Int) : Int := if 0 < j then i % j else i.fmod j
theorem gDiv_eq (i j : Int) : gDiv i j = i.fdiv j := by
  unfold gDiv
  split
  · rw [Int.fdiv_eq_ediv_of_nonneg i (by omega)]
  · rfl
theorem gMod_eq (i j : Int) : gMod i j = i.fmod j := by
  unfold gMod
  split
  · rw [Int.fmod_eq_emod_of_nonneg i (by omega)]
  · rfl
theorem op_divA : OpR X (binaryOp .FloorDiv) (rI (fun i j => cDiv i j = true) fun i j => .int (gDiv i j)) := L2.opI fun i j _ _ _ _ _ hc q => by
  have h1 := of_decide_eq_true hc
  rw [gDiv_eq] at q
  exact floordiv_int h1.1 q (.inl (PyProof.noPylong_of_log2 h1.2))
def opDiv : O2 := opI cDiv gDiv
theorem ie_div (ha : IE X cad a f) (hb : IE X cad b g) : IE X cad (.BinOp a .FloorDiv b pos) (eBin opDiv f g) := ie_bin op_divA (od_I fun _ _ h => h) ha hb
def cMod (_ j : Int) : Bool := decide (j ≠ 0)
theorem op_modA : OpR X (binaryOp .Mod) (rI (fun i j => cMod i j = true) fun i j => .int (gMod i j)) := L2.opI fun i j _ _ _ _ _ hc q => by
  have h1 : j ≠ 0 := of_decide_eq_true hc
  rw [gMod_eq] at q
  exact mod_int' h1 q
def opMod : O2 := opI cMod gMod
theorem ie_mod (ha : IE X cad a f) (hb : IE X cad b g) : IE X cad (.BinOp a .Mod b pos) (eBin opMod f g) := ie_bin op_modA (od_I fun _ _ h => h) ha hb
def cPow (i j : Int) : Bool := decide (0 ≤ j ∧ j ≤ 1000000 ∧ i.natAbs < 2 ^ 64)
def opPow : O2 := opI cPow fun i j => i ^ j.toNat
theorem ie_pow (ha : IE X cad a f) (hb : IE X cad b g) : IE X cad (.BinOp a .Pow b pos) (eBin opPow f g) := ie_bin op_pow (od_I fun _ _ h => by
  have z := of_decide_eq_true h
  exact z) ha hb
def opAnd : O2 := opI cT Builtin.bitAnd
theorem ie_and (ha : IE X cad a f) (hb : IE X cad b g) : IE X cad (.BinOp a .BitAnd b pos) (eBin opAnd f g) := ie_bin (rI0_I op_and) (od_I fun _ _ _ => True.intro) ha hb
def opOr : O2 := opI cT Builtin.bitOr
theorem ie_or (ha : IE X cad a f) (hb : IE X cad b g) : IE X cad (.BinOp a .BitOr b pos) (eBin opOr f g) := ie_bin (rI0_I op_or) (od_I fun _ _ _ => True.intro) ha hb
end
end MP

set_option maxRecDepth 100000
/-! MP 3: products, comparisons, truth, tests. -/
namespace MP
open PySem PySem.Spec PyProof.Rows L2

section
variable {X : Cx} {cad : Cad} {e a b c : Expr} {f g h : ME} {pos : Pos}
/-! ### * -/
def cMul (i j : Int) : Bool := decide (i.natAbs < 2 ^ 64 ∨ j.natAbs < 2 ^ 64 ∨ i.natAbs.log2 + j.natAbs.log2 < 1000000)
theorem cMul_ok {i j : Int} (h : cMul i j = true) : IntMulOk i j := by
  have z := of_decide_eq_true h
  rcases z with z | z | z
  · exact CMul.ok (.inl (by omega))
  · exact CMul.ok (.inr (by omega))
  · exact CMulW.ok z
/-- a text again and again -/
def repS (l : List Nat) (n : Int) : List Nat := (List.replicate n.toNat l).flatten
theorem foldl_app (l : List Nat) : ∀ (k : Nat) (acc : Array Nat), ((List.replicate k l.toArray).foldl (· ++ ·) acc) = (acc.toList ++ (List.replicate k l).flatten).toArray
  | 0, acc => by simp
  | k + 1, acc => by
    rw [List.replicate_succ, List.foldl_cons, foldl_app l k, List.replicate_succ, List.flatten_cons]
    simp
theorem mul_rep (l : List Nat) (n : Int) : Txt.mul (mkS l) n = mkS (repS l n) := by
  unfold Txt.mul repS
  by_cases h : n < 1
  · rw [if_pos h]
    have : n.toNat = 0 := by omega
    rw [this]
    rfl
  · rw [if_neg h]
    by_cases h1 : (n == 1 || (mkS l).length == 0) = true
    · rw [if_pos h1]
      rw [Bool.or_eq_true] at h1
      rcases h1 with h1 | h1
      · have : n = 1 := by simpa using h1
        subst this
        simp [List.replicate]
      · rw [mkS_len] at h1
        have hl : l = [] := by simpa using h1
        subst hl
        congr 1
        simp
    · rw [if_neg h1]
      show (⟨(List.replicate n.toNat l.toArray).foldl (· ++ ·) #[]⟩ : Str) = _
      rw [foldl_app]
      rfl
def opMul : O2 := fun x y st => match x, y with
  | .int i, .int j => if cMul i j then some (.int (i * j), st) else none
  | .str l, .int n => if -(LIM : Int) ≤ n ∧ n ≤ (LIM : Nat) ∧ l.length * n.toNat ≤ LIM then some (.str (repS l n), st) else none
  | .ref k, .int n => match myL st k with
    | some l => if -(LIM : Int) ≤ n ∧ n ≤ (LIM : Nat) ∧ l.length * n.toNat ≤ LIM then some (.ref st.length, st ++ [.lst (List.replicate n.toNat l).flatten]) else none
    | none => none
  | _, _ => none
def rMulS : R2 := fun x y H Q => ∃ (l : List Nat) (n : Int), x = .str (mkS l) ∧ y = .int n ∧ n ≤ (LIM : Nat) ∧ l.length * n.toNat ≤ LIM ∧ -(LIM : Int) ≤ n ∧ Q (.str (mkS (repS l n))) H
theorem op_mulS : OpR X (binaryOp .Mult) rMulS := by
  intro pins s σ H x y v u Q I rx ry h
  obtain ⟨l, n, rfl, rfl, h1, h2, h3, q⟩ := h
  obtain ⟨t, rfl⟩ := rx
  obtain ⟨t', rfl⟩ := ry
  have hL : LIM = 16000000 := rfl
  rw [hL] at h1 h2 h3
  refine PySem.SB.mul ⟨?_, fun h4 h5 => ?_, fun h4 h5 => ?_⟩ (fun t2 k => ?_)
  · rw [Bool.or_eq_false_iff]
    exact ⟨decide_eq_false (by omega), decide_eq_false (by omega)⟩
  · rw [mkS_len]
    have hp : 0 < n := by omega
    intro z
    have e1 : (2 ^ 63 - 1 : Int) / n < (l.length : Int) := z
    have e2 : (l.length : Int) * n ≤ 16000000 := by
      have : n = (n.toNat : Int) := by omega
      rw [this]
      have h2' : ((l.length * n.toNat : Nat) : Int) ≤ 16000000 := by omega
      simpa using h2'
    have e3 : (2 ^ 63 - 1 : Int) < (l.length : Int) * n := (Int.ediv_lt_iff_lt_mul hp).mp e1
    omega
  · rw [mkS_len]
    unfold Builtin.Str.tooLong
    exact decide_eq_false (by
      have := lim_ok (show l.length * n.toNat ≤ LIM from h2)
      omega)
  · rw [mul_rep]
    exact ⟨.str _, H, I.tok _, ⟨_, rfl⟩, q⟩
theorem okS_rep {l : List Nat} (h : okS l = true) (n : Int) : okS (repS l n) = true := okS_sub h fun c hc => by
  unfold repS at hc
  obtain ⟨m, h1, h2⟩ := List.mem_flatten.mp hc
  rw [List.eq_of_mem_replicate h1] at h2
  exact h2
def rMulA (K : PySem.W.Frag) : R2 := fun x y H Q => (∃ i j, x = .int i ∧ y = .int j ∧ cMul i j = true ∧ Q (.int (i * j)) H) ∨ rMulS x y H Q ∨ rRep x y H Q
theorem op_mulA : OpR X (binaryOp .Mult) (rMulA X.K) := (L2.opI fun _ _ _ _ _ _ _ hc q => mul_int q (cMul_ok hc)).or (op_mulS.or op_rep)
theorem VRs.rep {K : PySem.W.Frag} {as : List Addr} {H : Hp} {ds : List D} {vs : List V} (h : VRs K as H ds vs) : ∀ k : Nat, VRs K as H (List.replicate k ds).flatten (List.replicate k vs).flatten
  | 0 => .nil
  | k + 1 => by
    rw [List.replicate_succ, List.replicate_succ, List.flatten_cons, List.flatten_cons]
    exact h.append (h.rep k)
theorem od_mul {K : PySem.W.Frag} : OpD K cad (rMulA K) opMul := by
  intro as st H x y v w d st' Q R r1 r2 e P
  cases r1 with
  | int i =>
    cases r2 with
    | int j =>
      simp only [opMul] at e
      split at e
      · cases e
        rename_i hc
        exact .inl ⟨i, j, rfl, rfl, hc, P.now R (.int _)⟩
      · cases e
    | _ => cases e
  | @str l hl =>
    cases r2 with
    | int j =>
      simp only [opMul] at e
      split at e
      · cases e
        rename_i hc
        exact .inr (.inl ⟨l, j, rfl, rfl, hc.2.1, hc.2.2, hc.1, P.now R (.str (okS_rep hl j))⟩)
      · cases e
    | _ => cases e
  | @ref n a ha =>
    cases r2 with
    | int j =>
      simp only [opMul] at e
      split at e
      · rename_i l e1
        split at e
        · cases e
          rename_i hc
          obtain ⟨xs, q1, r1⟩ := R.myL e1 ha
          have hL : LIM = 16000000 := rfl
          refine .inr (.inr ⟨a, j, xs, rfl, rfl, q1, ?_, ?_, ?_, fun p hp => P.lst R (r1.rep _) hp⟩)
          · have := hc.1
            omega
          · have := hc.2.1
            omega
          · rw [← r1.length]
            exact lim_ok hc.2.2
        · cases e
      · cases e
    | _ => cases e
  | _ => cases r2 <;> cases e
theorem ie_mul (ha : IE X cad a f) (hb : IE X cad b g) : IE X cad (.BinOp a .Mult b pos) (eBin opMul f g) := ie_bin op_mulA od_mul ha hb

/-! ### - -/
def U1 := D → Sto → Option (D × Sto)
def eUn (o : D → Sto → Option (D × Sto)) (f : ME) : ME := fun ρ st => (f ρ st).bind fun p => o p.1 p.2
def opNeg : D → Sto → Option (D × Sto) := fun x st => match x with
  | .int i => some (.int (-i), st)
  | _ => none
theorem ie_neg (ha : IE X cad a f) : IE X cad (.UnaryOp .USub a pos) (eUn opNeg f) := by
  refine pe_weak (pe_un un_neg ha) fun σ H Q => ?_
  rintro ⟨as, st, ρ, d, st', R, E, q, P⟩
  obtain ⟨⟨x, st1⟩, e1, q⟩ := bind_some q
  refine tI_run R E e1 fun as1 H1 v x1 R1 E1 r1 => ?_
  cases r1 with
  | int i =>
    cases q
    exact ⟨i, rfl, (P.ext x1).now R1 (.int _)⟩
  | _ => cases q

/-! ### comparisons by order -/
def opOrd (ki : Int → Int → Bool) (ks : List Nat → List Nat → Bool) : O2 := fun x y st => match x, y with
  | .int i, .int j => some (.bl (ki i j), st)
  | .str l, .str m => some (.bl (ks l m), st)
  | _, _ => none
def rOrd (ki : Int → Int → Bool) (ks : List Nat → List Nat → Bool) : R2 := fun x y H Q => (∃ i j, x = .int i ∧ y = .int j ∧ Q (.bl (ki i j)) H) ∨ ∃ i j, x = .str i ∧ y = .str j ∧ Q (.bl (ks i.cps.toList j.cps.toList)) H
theorem od_ord {K : PySem.W.Frag} {ki : Int → Int → Bool} {ks : List Nat → List Nat → Bool} : OpD K cad (rOrd ki ks) (opOrd ki ks) := by
  intro as st H x y v w d st' Q R r1 r2 e P
  cases r1 with
  | int i =>
    cases r2 with
    | int j =>
      cases e
      exact .inl ⟨i, j, rfl, rfl, P.now R (.bl _)⟩
    | _ => cases e
  | str _ =>
    cases r2 with
    | str _ =>
      cases e
      exact .inr ⟨_, _, rfl, rfl, P.now R (.bl _)⟩
    | _ => cases e
  | _ => cases r2 <;> cases e
theorem opS {f : Value → Value → Sem Value} {ks : List Nat → List Nat → Bool}
    (h : ∀ {prog : Program} {w : World} {A : Around} {E : Value → Shared → Prop} {s : Shared} {x y : Str} {t u : Tok} {Q : Value → Shared → Prop}, Q (.bool (ks x.cps.toList y.cps.toList)) s → wpAny (model prog w) A (f (.str x t) (.str y u)) Q E s) :
    OpR X f (fun x y H Q => ∃ i j, x = .str i ∧ y = .str j ∧ Q (.bl (ks i.cps.toList j.cps.toList)) H) := by
  intro pins s σ H x y v u Q I rx ry z
  obtain ⟨i, j, rfl, rfl, q⟩ := z
  obtain ⟨t, rfl⟩ := rx
  obtain ⟨t', rfl⟩ := ry
  exact h ⟨.bl _, H, I, rfl, q⟩
def eCmp (o : O2) (f g : ME) : ME := eBin o f g
def kLt : O2 := opOrd (fun i j => decide (i < j)) fun l m => decide (l < m)
def kLe : O2 := opOrd (fun i j => decide (i ≤ j)) fun l m => !decide (m < l)
def kGt : O2 := opOrd (fun i j => decide (j < i)) fun l m => decide (m < l)
def kGe : O2 := opOrd (fun i j => decide (j ≤ i)) fun l m => !decide (l < m)
theorem op_kLt : OpR X (compareOp .Lt) (rOrd (fun i j => decide (i < j)) fun l m => decide (l < m)) := OpR.or op_lt (opS (ks := fun l m => decide (l < m)) fun h => PyProof.Rows.lt_str h)
theorem op_kLe : OpR X (compareOp .LtE) (rOrd (fun i j => decide (i ≤ j)) fun l m => !decide (m < l)) := OpR.or op_le (opS (ks := fun l m => !decide (m < l)) fun h => PySem.P.le_str h)
theorem op_kGt : OpR X (compareOp .Gt) (rOrd (fun i j => decide (j < i)) fun l m => decide (m < l)) := OpR.or op_gt (opS (ks := fun l m => decide (m < l)) fun h => PySem.P.gt_str h)
theorem op_kGe : OpR X (compareOp .GtE) (rOrd (fun i j => decide (j ≤ i)) fun l m => !decide (l < m)) := OpR.or op_ge (opS (ks := fun l m => !decide (l < m)) fun h => PySem.P.ge_str h)
/-- a comparison by its rule -/
structure Cmp (X : Cx) (cad : Cad) (op : CmpOp) (o : O2) : Prop where
  has : ∃ r, OpR X (compareOp op) r ∧ OpD X.K cad r o
theorem cm_lt : Cmp X cad .Lt kLt := ⟨⟨_, op_kLt, od_ord⟩⟩
theorem cm_le : Cmp X cad .LtE kLe := ⟨⟨_, op_kLe, od_ord⟩⟩
theorem cm_gt : Cmp X cad .Gt kGt := ⟨⟨_, op_kGt, od_ord⟩⟩
theorem cm_ge : Cmp X cad .GtE kGe := ⟨⟨_, op_kGe, od_ord⟩⟩
theorem ie_cmp {op : CmpOp} {o : O2} (h : Cmp X cad op o) (ha : IE X cad a f) (hb : IE X cad b g) (hm : behindInMarks op b = false) : IE X cad (.Compare a [op] [b] pos) (eBin o f g) := by
  obtain ⟨r, h1, h2⟩ := h.has
  exact pe_weak (pe_cmpR h1 ha hb hm) fun _ _ _ => tI_op h2
end
end MP

set_option maxRecDepth 100000
/-! MP 4: == and in, truth, tests, and, or, not, conditional expressions. -/
namespace MP
open PySem PySem.Spec PyProof.Rows L2

/-! ### == -/
def mapO {α β : Type} (f : α → Option β) : List α → Option (List β)
  | [] => some []
  | a :: r => (f a).bind fun b => (mapO f r).map fun s => b :: s
/-- data as the library's equality takes it: at most so deep -/
def toP (st : Sto) : Nat → D → Option PyData
  | 0, _ => none
  | n + 1, d => match d with
    | .non => some .none
    | .bl b => some (.bool b)
    | .int i => some (.int i)
    | .str l => some (.str (mkS l))
    | .tup ds => (mapO (toP st n) ds).map .tuple
    | .ref k => match rdL st k with
      | some ds => (mapO (toP st n) ds).map .list
      | none => none
theorem map_some {α β : Type} {o : Option α} {k : α → β} {b : β} (h : o.map k = some b) : ∃ a, o = some a ∧ k a = b := by
  cases o with
  | none => cases h
  | some a => exact ⟨a, rfl, Option.some.inj h⟩
section
variable {K : PySem.W.Frag} {cad : Cad} {as : List Addr} {st : Sto} {H : Hp}
theorem toP_all {n : Nat} (ih : ∀ (d : D) (v : V) (p : PyData), VR K as H d v → toP st n d = some p → Dp K H v p ∧ p.canLay0 = true ∧ p.depth ≤ n) :
    ∀ {ds : List D} {vs : List V} {ps : List PyData}, VRs K as H ds vs → mapO (toP st n) ds = some ps → DpAll K H vs ps ∧ PyData.canLayAll0 ps = true ∧ PyData.depthAll ps ≤ n
  | _, _, _, .nil, e => by
    cases e
    exact ⟨.nil, rfl, Nat.zero_le _⟩
  | d :: ds, v :: vs, _, .cons r t, e => by
    obtain ⟨p, e1, e2⟩ := bind_some e
    obtain ⟨q, e3, rfl⟩ := map_some e2
    obtain ⟨h1, h2, h3⟩ := ih d v p r e1
    obtain ⟨h4, h5, h6⟩ := toP_all ih t e3
    refine ⟨.cons h1 h4, ?_, ?_⟩
    · show (PyData.canLay0 p && PyData.canLayAll0 q) = true
      rw [h2, h5]
      rfl
    · show max (PyData.depth p) (PyData.depthAll q) ≤ n
      omega
theorem toP_ok (R : Rel K cad as st H) : ∀ (n : Nat) (d : D) (v : V) (p : PyData), VR K as H d v → toP st n d = some p → Dp K H v p ∧ p.canLay0 = true ∧ p.depth ≤ n
  | 0, _, _, _, _, e => by cases e
  | n + 1, d, v, p, r, e => by
    have ih := toP_ok R n
    cases r with
    | non => cases e; exact ⟨.non, rfl, Nat.zero_le _⟩
    | bl b => cases e; exact ⟨.bl b, rfl, Nat.zero_le _⟩
    | int i => cases e; exact ⟨.int i, rfl, Nat.zero_le _⟩
    | @str l hl =>
      cases e
      refine ⟨.str _, ?_, Nat.zero_le _⟩
      show PyData.strOk (mkS l) = true
      unfold PyData.strOk mkS
      rw [List.all_toArray]
      exact hl
    | tup hs rs =>
      obtain ⟨q, e1, rfl⟩ := map_some e
      obtain ⟨h1, h2, h3⟩ := toP_all ih rs e1
      exact ⟨.tup hs h1, h2, Nat.succ_le_succ h3⟩
    | @ref k a ha =>
      simp only [toP] at e
      split at e
      · rename_i ds e0
        obtain ⟨q, e1, rfl⟩ := map_some e
        obtain ⟨xs, hs, rs⟩ := R.rdL e0 ha
        obtain ⟨h1, h2, h3⟩ := toP_all ih rs e1
        exact ⟨.lst hs h1, h2, Nat.succ_le_succ h3⟩
      · cases e
end
/-- how deep data are compared -/
def DEEP : Nat := 50
def eqO (st : Sto) (x y : D) : Option Bool := match toP st DEEP x, toP st DEEP y with
  | some p, some q => some (PyData.eqv p q)
  | _, _ => none
def kEq : O2 := fun x y st => (eqO st x y).map fun b => (.bl b, st)
def kNe : O2 := fun x y st => (eqO st x y).map fun b => (.bl (!b), st)
theorem eqO_some {st : Sto} {x y : D} {b : Bool} (h : eqO st x y = some b) : ∃ p q, toP st DEEP x = some p ∧ toP st DEEP y = some q ∧ b = PyData.eqv p q := by
  unfold eqO at h
  split at h
  · rename_i p q e1 e2
    cases h
    exact ⟨p, q, e1, e2, rfl⟩
  · cases h
theorem shaped_of {p : PyData} (h1 : p.canLay0 = true) (h2 : p.depth ≤ DEEP) : SeqAt.shaped p = true := by
  unfold SeqAt.shaped
  rw [h1, decide_eq_true (Nat.le_trans h2 (by decide : DEEP ≤ 64))]
  rfl
section
variable {X : Cx} {cad : Cad} {e a b c : Expr} {f g h : ME} {pos : Pos}
theorem od_eq {K : PySem.W.Frag} : OpD K cad (rEqD K) kEq := by
  intro as st H x y v w d st' Q R r1 r2 e P
  obtain ⟨b, e1, e2⟩ := map_some e
  cases e2
  obtain ⟨p, q, e3, e4, rfl⟩ := eqO_some e1
  obtain ⟨h1, h2, h3⟩ := toP_ok R _ _ _ _ r1 e3
  obtain ⟨h4, h5, h6⟩ := toP_ok R _ _ _ _ r2 e4
  exact ⟨p, q, h1, h4, shaped_of h2 h3, shaped_of h5 h6, P.now R (.bl _)⟩
theorem od_ne {K : PySem.W.Frag} : OpD K cad (rNeD K) kNe := by
  intro as st H x y v w d st' Q R r1 r2 e P
  obtain ⟨b, e1, e2⟩ := map_some e
  cases e2
  obtain ⟨p, q, e3, e4, rfl⟩ := eqO_some e1
  obtain ⟨h1, h2, h3⟩ := toP_ok R _ _ _ _ r1 e3
  obtain ⟨h4, h5, h6⟩ := toP_ok R _ _ _ _ r2 e4
  exact ⟨p, q, h1, h4, shaped_of h2 h3, shaped_of h5 h6, P.now R (.bl _)⟩
theorem cm_eq (hu : X.A.units + 64 < cLine) : Cmp X cad .Eq kEq := ⟨⟨_, op_eqD hu, od_eq⟩⟩
theorem cm_ne (hu : X.A.units + 64 < cLine) : Cmp X cad .NotEq kNe := ⟨⟨_, op_neD hu, od_ne⟩⟩

/-! ### is None -/
def kIs : O2 := fun x y st => match x, y with
  | .non, .non => some (.bl true, st)
  | _, .non => some (.bl false, st)
  | _, _ => none
def kIsNot : O2 := fun x y st => match x, y with
  | .non, .non => some (.bl false, st)
  | _, .non => some (.bl true, st)
  | _, _ => none
theorem od_is {K : PySem.W.Frag} : OpD K cad (fun x y H Q => y = .non ∧ Q (.bl (decide (x = .non))) H) kIs := by
  intro as st H x y v w d st' Q R r1 r2 e P
  cases r2 with
  | non =>
    cases r1 <;> (cases e; refine ⟨rfl, ?_⟩; exact P.now R (.bl _))
  | _ => cases r1 <;> cases e
theorem od_isnot {K : PySem.W.Frag} : OpD K cad (fun x y H Q => y = .non ∧ Q (.bl (!decide (x = .non))) H) kIsNot := by
  intro as st H x y v w d st' Q R r1 r2 e P
  cases r2 with
  | non =>
    cases r1 <;> (cases e; refine ⟨rfl, ?_⟩; exact P.now R (.bl _))
  | _ => cases r1 <;> cases e
theorem cm_is : Cmp X cad .Is kIs := ⟨⟨_, op_isN, od_is⟩⟩
theorem cm_isnot : Cmp X cad .IsNot kIsNot := ⟨⟨_, op_notN, od_isnot⟩⟩

/-! ### in -/
/-- what == answers of an item that reads as some data, told by the item -/
noncomputable def eqItem (h : Heap) (q : PyData) (u : Value) : Bool := by
  classical exact if hu : ∃ p as, Reads h u p as ∧ p.canLay0 = true then PyData.eqv (Classical.choose hu) q else false
theorem eqItem_of {h : Heap} {q p : PyData} {u : Value} {as : List Addr} (r : Reads h u p as) (c : p.canLay0 = true) : eqItem h q u = PyData.eqv p q := by
  have hu : ∃ p as, Reads h u p as ∧ p.canLay0 = true := ⟨p, as, r, c⟩
  unfold eqItem
  rw [dif_pos hu]
  obtain ⟨as', r', c'⟩ := Classical.choose_spec hu
  rw [PySem.SeqAt.Reads.unique _ _ _ _ _ c r r']
def rInD (K : PySem.W.Frag) (neg : Bool) : R2 := fun x y H Q => ∃ p xs q ps, y = .ref p ∧ (SqL K H p xs ∨ SqT K H p xs) ∧ Dp K H x q ∧ q.canLay0 = true ∧ q.depth ≤ 60 ∧ DpAll K H xs ps ∧ PyData.canLayAll0 ps = true ∧
  Q (.bl (if neg then !ps.any (fun p => PyData.eqv p q) else ps.any fun p => PyData.eqv p q)) H
theorem readsAll_mem {h : Heap} {q : PyData} {v : Value} {A : Around} {s : Shared} (hs : s.heap = h) (hv : ∃ bs, Reads h v q bs) (hq : q.canLay0 = true) (hu : A.units + q.depth < cLine) :
    ∀ {us : List Value} {ps : List PyData} {as : List Addr}, ReadsAll h us ps as → PyData.canLayAll0 ps = true → (∀ u ∈ us, SeqAt.EqAt A s u v (eqItem h q u)) ∧ us.any (eqItem h q) = ps.any fun p => PyData.eqv p q
  | [], _, _, .nil, _ => ⟨(fun u hu => by cases hu), rfl⟩
  | u :: us, p :: ps, _, .cons r t, c => by
    have c' : (PyData.canLay0 p && PyData.canLayAll0 ps) = true := c
    rw [Bool.and_eq_true] at c'
    obtain ⟨h1, h2⟩ := readsAll_mem hs hv hq hu t c'.2
    have e := eqItem_of (q := q) r c'.1
    refine ⟨fun u' hu' => ?_, ?_⟩
    · rcases List.mem_cons.mp hu' with rfl | hu'
      · rw [e]
        obtain ⟨bs, rv⟩ := hv
        subst hs
        refine SeqAt.eqAt_reads p q A s _ _ _ _ r rv c'.1 hq ?_
        have : min p.depth q.depth ≤ q.depth := Nat.min_le_right _ _
        omega
      · exact h1 u' hu'
    · rw [List.any_cons, List.any_cons, h2, e]
theorem op_inD (hu : X.A.units + 64 < cLine) : OpR X (compareOp .In) (rInD X.K false) := by
  intro pins s σ H x y v u Q I rx ry h
  obtain ⟨p, xs, q, ps, rfl, hq, dx, cx, ex, da, ca, k⟩ := h
  cases ry
  have hv := Dp.reads I q x v dx rx
  have hu1 : X.A.in1.units + q.depth < cLine := by
    show X.A.units + 1 + q.depth < cLine
    omega
  rcases hq with hq | hq
  · obtain ⟨its, r, pl, hz⟩ := I.list hq
    obtain ⟨as, ra⟩ := Dp.readsAll I ps xs its da r
    obtain ⟨m1, m2⟩ := readsAll_mem (A := X.A.in1) rfl hv cx hu1 ra ca
    refine SeqAt.in_listAt (eqItem s.heap q) pl.isList (fun w hw => m1 w (by simpa using hw)) ⟨.bl _, H, I, rfl, ?_⟩
    rw [show its.toArray.any (eqItem s.heap q) = its.any (eqItem s.heap q) by simp, m2]
    exact k
  · obtain ⟨its, r, pl, hz⟩ := I.tuple hq
    obtain ⟨as, ra⟩ := Dp.readsAll I ps xs its da r
    obtain ⟨m1, m2⟩ := readsAll_mem (A := X.A.in1) rfl hv cx hu1 ra ca
    refine SeqAt.in_tupleAt (eqItem s.heap q) pl (fun w hw => m1 w (by simpa using hw)) ⟨.bl _, H, I, rfl, ?_⟩
    rw [show its.toArray.any (eqItem s.heap q) = its.any (eqItem s.heap q) by simp, m2]
    exact k
theorem op_notInD (hu : X.A.units + 64 < cLine) : OpR X (compareOp .NotIn) (rInD X.K true) := by
  intro pins s σ H x y v u Q I rx ry h
  obtain ⟨p, xs, q, ps, rfl, hq, dx, cx, ex, da, ca, k⟩ := h
  cases ry
  have hv := Dp.reads I q x v dx rx
  have hu1 : X.A.in1.units + q.depth < cLine := by
    show X.A.units + 1 + q.depth < cLine
    omega
  rcases hq with hq | hq
  · obtain ⟨its, r, pl, hz⟩ := I.list hq
    obtain ⟨as, ra⟩ := Dp.readsAll I ps xs its da r
    obtain ⟨m1, m2⟩ := readsAll_mem (A := X.A.in1) rfl hv cx hu1 ra ca
    refine SeqAt.notIn_listAt (eqItem s.heap q) pl.isList (fun w hw => m1 w (by simpa using hw)) ⟨.bl _, H, I, rfl, ?_⟩
    rw [show its.toArray.any (eqItem s.heap q) = its.any (eqItem s.heap q) by simp, m2]
    exact k
  · obtain ⟨its, r, pl, hz⟩ := I.tuple hq
    obtain ⟨as, ra⟩ := Dp.readsAll I ps xs its da r
    obtain ⟨m1, m2⟩ := readsAll_mem (A := X.A.in1) rfl hv cx hu1 ra ca
    refine SeqAt.notIn_tupleAt (eqItem s.heap q) pl (fun w hw => m1 w (by simpa using hw)) ⟨.bl _, H, I, rfl, ?_⟩
    rw [show its.toArray.any (eqItem s.heap q) = its.any (eqItem s.heap q) by simp, m2]
    exact k

/-! dicts -/
def keyOf : D → Option Key
  | .int i => some (.inl i)
  | .str l => some (.inr (mkS l))
  | _ => none
def valD (kvs : List (Key × D)) (k : Key) : Option D := (kvs.find? fun kv => decide (kv.1 = k)).map (·.2)
theorem keyOf_is {K : PySem.W.Frag} {as : List Addr} {H : Hp} {x : D} {v : V} {k : Key} (r : VR K as H x v) (e : keyOf x = some k) : v = kV k := by
  cases r with
  | int i => cases e; rfl
  | str h => cases e; rfl
  | _ => cases e
abbrev KVR (K : PySem.W.Frag) (as : List Addr) (H : Hp) : List (Key × D) → List (Key × V) → Prop := Paired (fun (p : Key × D) (q : Key × V) => p.1 = q.1 ∧ VR K as H p.2 q.2)
def VRO (K : PySem.W.Frag) (as : List Addr) (H : Hp) : Option D → Option V → Prop
  | some d, some v => VR K as H d v
  | none, none => True
  | _, _ => False
theorem KVR.val {K : PySem.W.Frag} {as : List Addr} {H : Hp} {kvs : List (Key × D)} {xs : List (Key × V)} (r : KVR K as H kvs xs) (k : Key) : VRO K as H (valD kvs k) (valV xs k) := by
  induction r with
  | nil => trivial
  | @cons p q ps qs h _ ih =>
    unfold valD valV
    rw [List.find?_cons, List.find?_cons, h.1]
    by_cases e : q.1 = k
    · rw [decide_eq_true e]
      exact h.2
    · rw [decide_eq_false e]
      exact ih
def myD (st : Sto) (n : Nat) : Option (List (Key × D)) := match st[n]? with
  | some (.dic kvs) => some kvs
  | _ => none
theorem myD_at {st : Sto} {n : Nat} {kvs : List (Key × D)} (h : myD st n = some kvs) : st[n]? = some (.dic kvs) := by
  unfold myD at h
  split at h
  · rename_i es e
    cases h
    exact e
  · cases h
theorem Rel.myD {K : PySem.W.Frag} {as : List Addr} {st : Sto} {H : Hp} {n : Nat} {a : Addr} {kvs : List (Key × D)} (R : Rel K cad as st H) (h : myD st n = some kvs) (ha : as[n]? = some a) : ∃ xs, H a = some (.dK xs) ∧ KVR K as H kvs xs := R.ob n _ a (myD_at h) ha
/-- a text in a text -/
def subS (l m : List Nat) : Bool := !(Builtin.Str.occurrences (mkS m) (mkS l) 0 (mkS m).length 1).isEmpty
theorem subS_one (c : Nat) (m : List Nat) : subS [c] m = decide (c ∈ m) := PySem.StrLaws.found_one (mkS m) c
def inD (st : Sto) (x : D) (ds : List D) : Option Bool := match toP st DEEP x, mapO (toP st DEEP) ds with
  | some p, some ps => some (ps.any fun q => PyData.eqv q p)
  | _, _ => none
def inO (st : Sto) (x y : D) : Option Bool := match y with
  | .tup ds => inD st x ds
  | .str m => match x with
    | .str l => some (subS l m)
    | _ => none
  | .ref k => match rdL st k with
    | some ds => inD st x ds
    | none => match myD st k, keyOf x with
      | some kvs, some key => some (valD kvs key).isSome
      | _, _ => none
  | _ => none
def kIn (neg : Bool) : O2 := fun x y st => (inO st x y).map fun b => (.bl (if neg then !b else b), st)
def rInS (neg : Bool) : R2 := fun x y H Q => ∃ i j, x = .str i ∧ y = .str j ∧ Q (.bl (if neg then !(!(Builtin.Str.occurrences j i 0 j.length 1).isEmpty) else !(Builtin.Str.occurrences j i 0 j.length 1).isEmpty)) H
def rInK (neg : Bool) : R2 := fun x y H Q => ∃ a o, y = .ref a ∧ DGet H a x o ∧ Q (.bl (if neg then !o.isSome else o.isSome)) H
theorem op_inS : OpR X (compareOp .In) (rInS false) := op_in_str
theorem op_notInS : OpR X (compareOp .NotIn) (rInS true) := op_notIn_str
theorem op_inK (hu : X.A.units + 64 < cLine) : OpR X (compareOp .In) (rInK false) := by
  intro pins s σ H x y v u Q I rx ry h
  obtain ⟨a, o, rfl, g, q⟩ := h
  cases ry
  exact d_in (by omega) I g rx fun s' I' => ⟨.bl _, H, I', rfl, q⟩
theorem op_notInK (hu : X.A.units + 64 < cLine) : OpR X (compareOp .NotIn) (rInK true) := by
  intro pins s σ H x y v u Q I rx ry h
  obtain ⟨a, o, rfl, g, q⟩ := h
  cases ry
  exact d_notIn (by omega) I g rx fun s' I' => ⟨.bl _, H, I', rfl, q⟩
theorem inD_some {st : Sto} {x : D} {ds : List D} {b : Bool} (h : inD st x ds = some b) : ∃ p ps, toP st DEEP x = some p ∧ mapO (toP st DEEP) ds = some ps ∧ b = ps.any fun q => PyData.eqv q p := by
  unfold inD at h
  split at h
  · rename_i p ps e1 e2
    cases h
    exact ⟨p, ps, e1, e2, rfl⟩
  · cases h
theorem inD_to {K : PySem.W.Frag} {neg : Bool} {as : List Addr} {st : Sto} {H : Hp} {x : D} {v : V} {ds : List D} {xs : List V} {a : Addr} {b : Bool} {Q : VK} (R : Rel K cad as st H) (r1 : VR K as H x v) (h : inD st x ds = some b)
    (hs : SqL K H a xs ∨ SqT K H a xs) (rs : VRs K as H ds xs) (P : Post K cad as H st (.bl (if neg then !b else b)) Q) : rInD K neg v (.ref a) H Q := by
  obtain ⟨p, ps, e3, e4, rfl⟩ := inD_some h
  obtain ⟨h1, h2, h3⟩ := toP_ok R _ _ _ _ r1 e3
  obtain ⟨h4, h5, h6⟩ := toP_all (toP_ok R DEEP) rs e4
  exact ⟨a, xs, p, ps, rfl, hs, h1, h2, Nat.le_trans h3 (by decide : DEEP ≤ 60), h4, h5, P.now R (.bl _)⟩
theorem od_in {K : PySem.W.Frag} (neg : Bool) : OpD K cad (fun x y H Q => rInD K neg x y H Q ∨ rInS neg x y H Q ∨ rInK neg x y H Q) (kIn neg) := by
  intro as st H x y v w d st' Q R r1 r2 e P
  obtain ⟨b, e1, e2⟩ := map_some e
  cases e2
  cases r2 with
  | @tup a xs ds hs rs => exact .inl (inD_to R r1 e1 (.inr hs) rs P)
  | @str m hm =>
    cases r1 with
    | @str l hl =>
      simp only [inO] at e1
      cases e1
      exact .inr (.inl ⟨_, _, rfl, rfl, P.now R (.bl _)⟩)
    | _ => cases e1
  | @ref k a ha =>
    simp only [inO] at e1
    split at e1
    · rename_i ds e0
      obtain ⟨xs, hs, rs⟩ := R.rdL e0 ha
      exact .inl (inD_to R r1 e1 (.inl hs) rs P)
    · split at e1
      · rename_i kvs key e3 e4
        cases e1
        obtain ⟨xs, hs, rs⟩ := R.myD e3 ha
        refine .inr (.inr ⟨a, valV xs key, rfl, ?_, ?_⟩)
        · rw [keyOf_is r1 e4]
          exact DGet.k hs
        · have hv := rs.val key
          have e5 : (valD kvs key).isSome = (valV xs key).isSome := by
            cases h1 : valD kvs key <;> cases h2 : valV xs key <;> rw [h1, h2] at hv <;> first | rfl | exact hv.elim
          rw [e5] at P
          exact P.now R (.bl _)
      · cases e1
  | _ => cases e1
theorem cm_in (hu : X.A.units + 64 < cLine) : Cmp X cad .In (kIn false) := ⟨⟨_, (op_inD hu).or (op_inS.or (op_inK hu)), od_in false⟩⟩
theorem cm_notIn (hu : X.A.units + 64 < cLine) : Cmp X cad .NotIn (kIn true) := ⟨⟨_, (op_notInD hu).or (op_notInS.or (op_notInK hu)), od_in true⟩⟩

/-! ### truth, tests -/
def truD (st : Sto) : D → Option Bool
  | .non => some false
  | .bl b => some b
  | .int i => some (i != 0)
  | .str l => if l.length ≤ LIM then some (!l.isEmpty) else none
  | .tup ds => some (!ds.isEmpty)
  | .ref n => match rdL st n with
    | some ds => some (!ds.isEmpty)
    | none => (myD st n).map fun kvs => !kvs.isEmpty
theorem truD_ok {K : PySem.W.Frag} {as : List Addr} {st : Sto} {H : Hp} {d : D} {v : V} {b : Bool} (R : Rel K cad as st H) (r : VR K as H d v) (e : truD st d = some b) : TruV K v H b := by
  cases r with
  | non => cases e; rfl
  | bl k => cases e; rfl
  | int i => cases e; rfl
  | @str l hl =>
    simp only [truD] at e
    split at e
    · cases e
      rename_i hz
      refine ⟨?_, ?_⟩
      · rw [mkS_len]
        exact lim_ok hz
      · rw [mkS_len]
        cases l <;> rfl
    · cases e
  | @tup a xs ds hs rs =>
    cases e
    exact .inr (.inl ⟨xs, hs, by rw [rs.isEmpty]⟩)
  | @ref n a ha =>
    simp only [truD] at e
    split at e
    · rename_i ds e0
      cases e
      obtain ⟨xs, hs, rs⟩ := R.rdL e0 ha
      exact .inl ⟨xs, hs, by rw [rs.isEmpty]⟩
    · obtain ⟨kvs, e1, rfl⟩ := map_some e
      obtain ⟨xs, hs, rs⟩ := R.myD e1 ha
      refine .inr (.inr ⟨xs, hs, ?_⟩)
      cases rs <;> rfl
def tOf (f : ME) : MT := fun ρ st => (f ρ st).bind fun p => (truD p.2 p.1).map fun b => (b, p.2)
theorem it_of (ha : IE X cad a f) (he : ∀ whole, isTrue a X.env whole = (do let v ← whole; standAt a.pos; holding [v] (truthy v)) := by intro _; rfl) : IT X cad a (tOf f) := by
  refine pt_weak (pt_truth ha he) fun σ H Q => ?_
  rintro ⟨as, st, ρ, d, st', R, E, q, P⟩
  obtain ⟨⟨x, st1⟩, e1, q⟩ := bind_some q
  obtain ⟨k, e2, e3⟩ := map_some q
  obtain ⟨rfl, rfl⟩ := Prod.mk.inj e3
  exact tI_run R E e1 fun as1 H1 v x1 R1 E1 r1 => ⟨k, truD_ok R1 r1 e2, P as1 H1 x1 R1⟩
/-- a comparison as a test -/
theorem it_cmp {op : CmpOp} {o : O2} (h : Cmp X cad op o) (ha : IE X cad a f) (hb : IE X cad b g) (hm : behindInMarks op b = false) (ho : ∀ x y st d st', o x y st = some (d, st') → ∃ k, d = .bl k) : IT X cad (.Compare a [op] [b] pos) (tOf (eBin o f g)) := by
  obtain ⟨r, h1, h2⟩ := h.has
  refine pt_weak (pt_cmpR h1 ha hb hm) fun σ H Q => ?_
  rintro ⟨as, st, ρ, d, st', R, E, q, P⟩
  obtain ⟨⟨x, st1⟩, e1, q⟩ := bind_some q
  obtain ⟨k, e2, e3⟩ := map_some q
  obtain ⟨rfl, rfl⟩ := Prod.mk.inj e3
  refine tI_op h2 ⟨as, st, ρ, x, st1, R, E, e1, fun as1 H1 v x1 R1 r1 => ?_⟩
  obtain ⟨⟨y1, s1⟩, _, f2⟩ := bind_some e1
  obtain ⟨⟨y2, s2⟩, _, f2⟩ := bind_some f2
  obtain ⟨k', rfl⟩ := ho _ _ _ _ _ f2
  have e4 : k' = k := Option.some.inj e2
  subst e4
  cases r1
  exact ⟨k', rfl, P as1 H1 x1 R1⟩
end
end MP

set_option maxRecDepth 100000
/-! MP 5: and, or, not, if, chains; displays; subscripts and slices; calls. -/
namespace MP
open PySem PySem.Spec PyProof.Rows L2

section
variable {X : Cx} {cad : Cad} {e a b c : Expr} {f g h : ME} {t u : MT} {pos : Pos} {rest : List Expr}
/-! ### tests put together -/
def tAnd (t u : MT) : MT := fun ρ st => (t ρ st).bind fun p => if p.1 = true then u ρ p.2 else some (false, p.2)
def tOr (t u : MT) : MT := fun ρ st => (t ρ st).bind fun p => if p.1 = true then some (true, p.2) else u ρ p.2
def tNot (t : MT) : MT := fun ρ st => (t ρ st).map fun p => (!p.1, p.2)
def IW (X : Cx) (cad : Cad) (e : Expr) (t : MT) : Prop := PW X e (tIT X.K cad t)
theorem tIT_run {K : PySem.W.Frag} {cad : Cad} {as : List Addr} {st st' : Sto} {H : Hp} {ρ : Rho} {σ : L2.St} {t : MT} {b : Bool} {Q : Bool → Hp → Prop} (R : Rel K cad as st H) (E : ER K as H ρ σ) (e : t ρ st = some (b, st'))
    (P : ∀ as' H', Ext K as H as' H' → Rel K cad as' st' H' → ER K as' H' ρ σ → Q b H') : tIT K cad t σ H Q :=
  ⟨as, st, ρ, b, st', R, E, e, fun as' H' x R' => P as' H' x R' (E.mono x)⟩
theorem tIA_run {K : PySem.W.Frag} {cad : Cad} {as : List Addr} {st st' : Sto} {H : Hp} {ρ : Rho} {σ : L2.St} {f : MA} {ds : List D} {Q : List V → Hp → Prop} (R : Rel K cad as st H) (E : ER K as H ρ σ) (e : f ρ st = some (ds, st'))
    (P : ∀ as' H' vs, Ext K as H as' H' → Rel K cad as' st' H' → ER K as' H' ρ σ → VRs K as' H' ds vs → Q vs H') : tIA K cad f σ H Q :=
  ⟨as, st, ρ, ds, st', R, E, e, fun as' H' v x R' r => P as' H' v x R' (E.mono x) r⟩
theorem iw_and1 (ha : IT X cad a t) : IW X cad (.BoolOp .And [a] pos) t := pw_and1 ha
theorem iw_or1 (ha : IT X cad a t) : IW X cad (.BoolOp .Or [a] pos) t := pw_or1 ha
theorem iw_and (ha : IT X cad a t) (hb : IW X cad (.BoolOp .And (b :: rest) pos) u) : IW X cad (.BoolOp .And (a :: b :: rest) pos) (tAnd t u) := by
  refine pw_weak (pw_and ha hb) fun σ H Q => ?_
  rintro ⟨as, st, ρ, d, st', R, E, q, P⟩
  obtain ⟨⟨x, st1⟩, e1, q⟩ := bind_some q
  refine tIT_run R E e1 fun as1 H1 x1 R1 E1 => ?_
  cases x with
  | true => exact iteT (tIT_run R1 E1 q fun as2 H2 x2 R2 E2 => P as2 H2 (x1.trans x2) R2)
  | false =>
    cases q
    exact iteF (P as1 H1 x1 R1)
theorem iw_or (ha : IT X cad a t) (hb : IW X cad (.BoolOp .Or (b :: rest) pos) u) : IW X cad (.BoolOp .Or (a :: b :: rest) pos) (tOr t u) := by
  refine pw_weak (pw_or ha hb) fun σ H Q => ?_
  rintro ⟨as, st, ρ, d, st', R, E, q, P⟩
  obtain ⟨⟨x, st1⟩, e1, q⟩ := bind_some q
  refine tIT_run R E e1 fun as1 H1 x1 R1 E1 => ?_
  cases x with
  | true =>
    cases q
    exact iteT (P as1 H1 x1 R1)
  | false => exact iteF (tIT_run R1 E1 q fun as2 H2 x2 R2 E2 => P as2 H2 (x1.trans x2) R2)
theorem it_bool (h : IW X cad a t) : IT X cad a t := PW.pt h
theorem it_not (ha : IT X cad a t) : IT X cad (.UnaryOp .Not a pos) (tNot t) := by
  refine pt_weak (pt_not ha) fun σ H Q => ?_
  rintro ⟨as, st, ρ, d, st', R, E, q, P⟩
  obtain ⟨⟨x, st1⟩, e1, e2⟩ := map_some q
  obtain ⟨rfl, rfl⟩ := Prod.mk.inj e2
  exact tIT_run R E e1 fun as1 H1 x1 R1 E1 => P as1 H1 x1 R1
/-! ### .. as values -/
def eAnd (f g : ME) : ME := fun ρ st => (f ρ st).bind fun p => (truD p.2 p.1).bind fun k => if k = true then g ρ p.2 else some p
def eOr (f g : ME) : ME := fun ρ st => (f ρ st).bind fun p => (truD p.2 p.1).bind fun k => if k = true then some p else g ρ p.2
def eNot (f : ME) : ME := fun ρ st => (f ρ st).bind fun p => (truD p.2 p.1).map fun k => (.bl (!k), p.2)
theorem ie_one {op} (ha : IE X cad a f) : IE X cad (.BoolOp op [a] pos) f := pe_one ha
theorem ie_andV (ha : IE X cad a f) (hb : IE X cad (.BoolOp .And (b :: rest) pos) g) : IE X cad (.BoolOp .And (a :: b :: rest) pos) (eAnd f g) := by
  refine pe_weak (pe_andT ha hb) fun σ H Q => ?_
  rintro ⟨as, st, ρ, d, st', R, E, q, P⟩
  obtain ⟨⟨x, st1⟩, e1, q⟩ := bind_some q
  obtain ⟨k, e2, q⟩ := bind_some q
  refine tI_run R E e1 fun as1 H1 v x1 R1 E1 r1 => ⟨k, truD_ok R1 r1 e2, ?_⟩
  cases k with
  | true => exact iteT (tI_run R1 E1 q fun as2 H2 w x2 R2 E2 r2 => P as2 H2 w (x1.trans x2) R2 r2)
  | false =>
    cases q
    exact iteF (P as1 H1 v x1 R1 r1)
theorem ie_orV (ha : IE X cad a f) (hb : IE X cad (.BoolOp .Or (b :: rest) pos) g) : IE X cad (.BoolOp .Or (a :: b :: rest) pos) (eOr f g) := by
  refine pe_weak (pe_orT ha hb) fun σ H Q => ?_
  rintro ⟨as, st, ρ, d, st', R, E, q, P⟩
  obtain ⟨⟨x, st1⟩, e1, q⟩ := bind_some q
  obtain ⟨k, e2, q⟩ := bind_some q
  refine tI_run R E e1 fun as1 H1 v x1 R1 E1 r1 => ⟨k, truD_ok R1 r1 e2, ?_⟩
  cases k with
  | true =>
    cases q
    exact iteT (P as1 H1 v x1 R1 r1)
  | false => exact iteF (tI_run R1 E1 q fun as2 H2 w x2 R2 E2 r2 => P as2 H2 w (x1.trans x2) R2 r2)
theorem ie_notV (ha : IE X cad a f) : IE X cad (.UnaryOp .Not a pos) (eNot f) := by
  refine pe_weak (pe_notT ha) fun σ H Q => ?_
  rintro ⟨as, st, ρ, d, st', R, E, q, P⟩
  obtain ⟨⟨x, st1⟩, e1, q⟩ := bind_some q
  obtain ⟨k, e2, e3⟩ := map_some q
  obtain ⟨rfl, rfl⟩ := Prod.mk.inj e3
  exact tI_run R E e1 fun as1 H1 v x1 R1 E1 r1 => ⟨k, truD_ok R1 r1 e2, (P.ext x1).now R1 (.bl _)⟩
def eIf (t : MT) (f g : ME) : ME := fun ρ st => (t ρ st).bind fun p => if p.1 = true then f ρ p.2 else g ρ p.2
theorem ie_if (ht : IT X cad c t) (ha : IE X cad a f) (hb : IE X cad b g) : IE X cad (.IfExp c a b pos) (eIf t f g) := by
  refine pe_weak (pe_ifExp ht ha hb) fun σ H Q => ?_
  rintro ⟨as, st, ρ, d, st', R, E, q, P⟩
  obtain ⟨⟨x, st1⟩, e1, q⟩ := bind_some q
  refine tIT_run R E e1 fun as1 H1 x1 R1 E1 => ?_
  cases x with
  | true => exact iteT (tI_run R1 E1 q fun as2 H2 w x2 R2 E2 r2 => P as2 H2 w (x1.trans x2) R2 r2)
  | false => exact iteF (tI_run R1 E1 q fun as2 H2 w x2 R2 E2 r2 => P as2 H2 w (x1.trans x2) R2 r2)
/-- a op b op' c -/
def eChain (o o' : O2) (f g h : ME) : ME := fun ρ st => (f ρ st).bind fun x => (g ρ x.2).bind fun y => (o x.1 y.1 y.2).bind fun r => match r.1 with
  | .bl true => (h ρ r.2).bind fun z => o' y.1 z.1 z.2
  | .bl false => some (.bl false, r.2)
  | _ => none
theorem chain_to {K : PySem.W.Frag} {r r' : R2} {o o' : O2} (h1 : OpD K cad r o) (h2 : OpD K cad r' o') {σ : L2.St} {H : Hp} {Q : VK} (hw : tI K cad (eChain o o' f g h) σ H Q) : tChain r r' (tI K cad f) (tI K cad g) (tI K cad h) σ H Q := by
  obtain ⟨as, st, ρ, d, st', R, E, q, P⟩ := hw
  obtain ⟨⟨x, st1⟩, e1, q⟩ := bind_some q
  obtain ⟨⟨y, st2⟩, e2, q⟩ := bind_some q
  obtain ⟨⟨z, st3⟩, e3, q⟩ := bind_some q
  refine tI_run R E e1 fun as1 H1 v x1 R1 E1 r1 => tI_run R1 E1 e2 fun as2 H2 w x2 R2 E2 r2 => h1 as2 st2 H2 x y v w z st3 _ R2 (r1.mono x2) r2 e3 fun as3 H3 u x3 R3 r3 => ?_
  cases r3 with
  | bl k =>
    refine ⟨k, rfl, ?_⟩
    cases k with
    | true =>
      obtain ⟨⟨z, st4⟩, e4, q⟩ := bind_some q
      exact iteT (tI_run R3 (E2.mono x3) e4 fun as4 H4 s x4 R4 E4 r4 => h2 as4 st4 H4 y z w s d st' Q R4 (r2.mono (x3.trans x4)) r4 q (P.ext (x1.trans (x2.trans (x3.trans x4)))))
    | false =>
      cases q
      exact iteF ((P.ext (x1.trans (x2.trans x3))).now R3 (.bl _))
  | _ => cases q
theorem ie_chain {op op' : CmpOp} {o o' : O2} (h1 : Cmp X cad op o) (h2 : Cmp X cad op' o') (ha : IE X cad a f) (hb : IE X cad b g) (hc : IE X cad c h) (hm : lastMarks [op, op'] [b, c] = false := by with_unfolding_all rfl) : IE X cad (.Compare a [op, op'] [b, c] pos) (eChain o o' f g h) := by
  obtain ⟨r, h1, h1'⟩ := h1.has
  obtain ⟨r', h2, h2'⟩ := h2.has
  exact pe_weak (pe_chain h1 h2 ha hb hc hm) fun _ _ _ => chain_to h1' h2'
/-- what an operation tells is a truth -/
def IsBl (o : O2) : Prop := ∀ x y st d st', o x y st = some (d, st') → ∃ k, d = .bl k
theorem bl_ord {ki ks} : IsBl (opOrd ki ks) := by
  intro x y st d st' e
  cases x <;> cases y <;> first | (cases e; exact ⟨_, rfl⟩) | cases e
theorem bl_eq : IsBl kEq := by
  intro x y st d st' e
  obtain ⟨b, _, e2⟩ := map_some e
  cases e2
  exact ⟨_, rfl⟩
theorem bl_ne : IsBl kNe := by
  intro x y st d st' e
  obtain ⟨b, _, e2⟩ := map_some e
  cases e2
  exact ⟨_, rfl⟩
theorem bl_in {neg : Bool} : IsBl (kIn neg) := by
  intro x y st d st' e
  obtain ⟨b, _, e2⟩ := map_some e
  cases e2
  exact ⟨_, rfl⟩
theorem bl_is : IsBl kIs := by
  intro x y st d st' e
  cases x <;> cases y <;> first | (cases e; exact ⟨_, rfl⟩) | cases e
theorem bl_isnot : IsBl kIsNot := by
  intro x y st d st' e
  cases x <;> cases y <;> first | (cases e; exact ⟨_, rfl⟩) | cases e
theorem eChain_bl {o o' : O2} (h2 : IsBl o') {ρ : Rho} {st : Sto} {d : D} {st' : Sto} (e : eChain o o' f g h ρ st = some (d, st')) : ∃ k, d = .bl k := by
  obtain ⟨x, e1, q⟩ := bind_some e
  obtain ⟨y, e2, q⟩ := bind_some q
  obtain ⟨⟨z, st3⟩, e3, q⟩ := bind_some q
  cases z with
  | bl k =>
    cases k with
    | true =>
      obtain ⟨z, e4, q⟩ := bind_some q
      exact h2 _ _ _ _ _ q
    | false =>
      cases q
      exact ⟨_, rfl⟩
  | _ => cases q
theorem it_chain {op op' : CmpOp} {o o' : O2} (h1 : Cmp X cad op o) (h2 : Cmp X cad op' o') (ha : IE X cad a f) (hb : IE X cad b g) (hc : IE X cad c h) (ho : IsBl o') (hm : lastMarks [op, op'] [b, c] = false := by with_unfolding_all rfl) :
    IT X cad (.Compare a [op, op'] [b, c] pos) (tOf (eChain o o' f g h)) := by
  obtain ⟨r, h1, h1'⟩ := h1.has
  obtain ⟨r', h2, h2'⟩ := h2.has
  refine pt_weak (pt_chain h1 h2 ha hb hc hm) fun σ H Q => ?_
  rintro ⟨as, st, ρ, d, st', R, E, q, P⟩
  obtain ⟨⟨x, st1⟩, e1, q⟩ := bind_some q
  obtain ⟨k, e2, e3⟩ := map_some q
  obtain ⟨rfl, rfl⟩ := Prod.mk.inj e3
  refine chain_to h1' h2' ⟨as, st, ρ, x, st1, R, E, e1, fun as1 H1 v x1 R1 r1 => ?_⟩
  obtain ⟨k', rfl⟩ := eChain_bl ho e1
  have e4 : k' = k := Option.some.inj e2
  subst e4
  cases r1
  exact ⟨k', rfl, P as1 H1 x1 R1⟩

/-! ### displays -/
def aNil : MA := fun _ st => some ([], st)
def aCons (f : ME) (g : MA) : MA := fun ρ st => (f ρ st).bind fun p => (g ρ p.2).bind fun q => some (p.1 :: q.1, q.2)
theorem ia_nil : IA X cad [] aNil := by
  refine pa_weak pa_nil fun σ H Q => ?_
  rintro ⟨as, st, ρ, d, st', R, E, q, P⟩
  cases q
  exact P as H [] .refl R .nil
theorem ia_cons {es : List Expr} {g : MA} (ha : IE X cad a f) (hb : IA X cad es g) (hs : starEach (a :: es) X.env = (false, eval a X.env) :: starEach es X.env := by rfl) : IA X cad (a :: es) (aCons f g) := by
  refine pa_weak (pa_cons ha hb hs) fun σ H Q => ?_
  rintro ⟨as, st, ρ, d, st', R, E, q, P⟩
  obtain ⟨⟨x, st1⟩, e1, q⟩ := bind_some q
  obtain ⟨⟨ys, st2⟩, e2, q⟩ := bind_some q
  cases q
  exact tI_run R E e1 fun as1 H1 v x1 R1 E1 r1 => tIA_run R1 E1 e2 fun as2 H2 vs x2 R2 E2 r2 => P as2 H2 (v :: vs) (x1.trans x2) R2 (.cons (r1.mono x2) r2)
def eTup (g : MA) : ME := fun ρ st => (g ρ st).bind fun p => if p.1.length ≤ LIM then some (.tup p.1, p.2) else none
def eLst (g : MA) : ME := fun ρ st => (g ρ st).bind fun p => if p.1.length ≤ LIM then some (.ref p.2.length, p.2 ++ [.lst p.1]) else none
theorem ie_tup {es : List Expr} {g : MA} {x1} (h : IA X cad es g) : IE X cad (.Tuple es x1 pos) (eTup g) := by
  refine pe_weak (pe_tup h) fun σ H Q => ?_
  rintro ⟨as, st, ρ, d, st', R, E, q, P⟩
  obtain ⟨⟨ys, st1⟩, e1, q⟩ := bind_some q
  simp only at q
  split at q
  · rename_i hl
    cases q
    refine tIA_run R E e1 fun as1 H1 vs x1 R1 E1 r1 => ⟨?_, fun p hp => (P.ext x1).tup R1 r1 hp⟩
    rw [← r1.length]
    exact lim_ok hl
  · cases q
theorem ie_lst {es : List Expr} {g : MA} (h : IA X cad es g) : IE X cad (.List es pos) (eLst g) := by
  refine pe_weak (pe_lst h) fun σ H Q => ?_
  rintro ⟨as, st, ρ, d, st', R, E, q, P⟩
  obtain ⟨⟨ys, st1⟩, e1, q⟩ := bind_some q
  simp only at q
  split at q
  · rename_i hl
    cases q
    refine tIA_run R E e1 fun as1 H1 vs x1 R1 E1 r1 => ⟨?_, fun p hp => (P.ext x1).lst R1 r1 hp⟩
    rw [← r1.length]
    exact lim_ok hl
  · cases q
def eDic0 : ME := fun _ st => some (.ref st.length, st ++ [.dic []])
theorem ie_dic0 : IE X cad (.Dict [] [] pos) eDic0 := by
  refine pe_weak pe_dnewK fun σ H Q => ?_
  rintro ⟨as, st, ρ, d, st', R, E, q, P⟩
  cases q
  exact fun p hp => P.dic R hp

/-! ### subscripts -/
theorem ix_dict (hu : X.A.units + 64 < cLine) : IxR X (fun x y H Q => ∃ a v, x = .ref a ∧ DGet H a y (some v) ∧ Q v H) := by
  intro value slice pins s σ H x y v u Q I rx ry h hs
  obtain ⟨a, w, rfl, g, q⟩ := h
  obtain rfl : v = Value.ref a := rx
  exact tail_any (dict_typeIs I g) PySem.F.slot_dict_getitem.lookup (d_getItem (by omega) I g ry fun w' s' I' r' => ⟨w, H, I', r', q⟩) hs
def ixO (x y : D) (st : Sto) : Option D := match x with
  | .tup ds => match y with
    | .int i => atI ds i
    | _ => none
  | .str l => match y with
    | .int i => if l.length ≤ LIM then (atI l i).map fun c => .str [c] else none
    | _ => none
  | .ref k => match rdL st k with
    | some ds => match y with
      | .int i => atI ds i
      | _ => none
    | none => match myD st k, keyOf y with
      | some kvs, some key => valD kvs key
      | _, _ => none
  | _ => none
def kIx : O2 := fun x y st => (ixO x y st).map fun d => (d, st)
theorem VRs.atI {K : PySem.W.Frag} {as : List Addr} {H : Hp} {ds : List D} {vs : List V} {i : Int} {d : D} (r : VRs K as H ds vs) (e : atI ds i = some d) : ∃ v, L2.atI vs i = some v ∧ VR K as H d v := by
  unfold L2.atI at e ⊢
  rw [← r.length]
  obtain ⟨j, e1, e2⟩ := bind_some e
  obtain ⟨v, e3, r3⟩ := r.get e2
  exact ⟨v, by rw [e1]; exact e3, r3⟩
theorem od_ix {K : PySem.W.Frag} : OpD K cad (fun x y H Q => rIxL K x y H Q ∨ rIxT K x y H Q ∨ rIxS x y H Q ∨ ∃ a v, x = .ref a ∧ DGet H a y (some v) ∧ Q v H) kIx := by
  intro as st H x y v w d st' Q R r1 r2 e P
  obtain ⟨d', e1, e2⟩ := map_some e
  cases e2
  cases r1 with
  | @tup a xs ds hs rs =>
    cases r2 with
    | int i =>
      obtain ⟨v, e3, r3⟩ := rs.atI e1
      exact .inr (.inl ⟨a, xs, i, v, rfl, rfl, hs, e3, P.now R r3⟩)
    | _ => cases e1
  | @str l hl =>
    cases r2 with
    | int i =>
      simp only [ixO] at e1
      split at e1
      · rename_i hz
        obtain ⟨c, e3, rfl⟩ := map_some e1
        refine .inr (.inr (.inl ⟨mkS l, i, c, rfl, rfl, ?_, e3, ?_⟩))
        · rw [mkS_len]
          exact lim_ok hz
        · refine P.now R (VR.str (l := [c]) (okS_sub hl fun z hz => ?_))
          have : z = c := by simpa using hz
          subst this
          unfold L2.atI at e3
          obtain ⟨j, _, e4⟩ := bind_some e3
          exact List.mem_of_getElem? e4
      · cases e1
    | _ => cases e1
  | @ref k a ha =>
    simp only [ixO] at e1
    split at e1
    · rename_i ds e0
      obtain ⟨xs, hs, rs⟩ := R.rdL e0 ha
      cases r2 with
      | int i =>
        obtain ⟨v, e3, r3⟩ := rs.atI e1
        exact .inl ⟨a, xs, i, v, rfl, rfl, hs, e3, P.now R r3⟩
      | _ => cases e1
    · split at e1
      · rename_i kvs key e3 e4
        obtain ⟨xs, hs, rs⟩ := R.myD e3 ha
        have hv := rs.val key
        rw [e1] at hv
        cases e5 : valV xs key with
        | none =>
          rw [e5] at hv
          exact hv.elim
        | some z =>
          rw [e5] at hv
          refine .inr (.inr (.inr ⟨a, z, rfl, ?_, P.now R hv⟩))
          rw [keyOf_is r2 e4, ← e5]
          exact DGet.k hs
      · cases e1
  | _ => cases e1
theorem ie_ix (hu : X.A.units + 64 < cLine) (ha : IE X cad a f) (hb : IE X cad b g) (hs : PlainIx b) : IE X cad (.Subscript a b pos) (eBin kIx f g) :=
  pe_weak (pe_ix (ix_list.or (ix_tup.or (ix_str.or (ix_dict hu)))) ha hb hs) fun _ _ _ => tI_op od_ix

/-! ### slices -/
abbrev MO := Rho → Sto → Option (Option Int × Sto)
def oNone : MO := fun _ st => some (none, st)
def oSome (f : ME) : MO := fun ρ st => (f ρ st).bind fun p => match p.1 with
  | .int i => some (some i, p.2)
  | _ => none
def tIO (K : PySem.W.Frag) (cad : Cad) (f : MO) : TO := fun σ H Q => ∃ as st ρ o st', Rel K cad as st H ∧ ER K as H ρ σ ∧ f ρ st = some (o, st') ∧ ∀ as' H', Ext K as H as' H' → Rel K cad as' st' H' → Q o H'
def IO' (X : Cx) (cad : Cad) (e : Option Expr) (f : MO) : Prop := PO X e (tIO X.K cad f)
theorem po_weak {o : Option Expr} {t t' : TO} (h : PO X o t) (w : ∀ σ H Q, t' σ H Q → t σ H Q) : PO X o t' := ⟨fun pins s σ H Q I q => h.run pins s σ H Q I (w σ H Q q)⟩
theorem io_none : IO' X cad none oNone := by
  refine po_weak po_none fun σ H Q => ?_
  rintro ⟨as, st, ρ, d, st', R, E, q, P⟩
  cases q
  exact P as H .refl R
theorem io_some (ha : IE X cad a f) : IO' X cad (some a) (oSome f) := by
  refine po_weak (po_some ha) fun σ H Q => ?_
  rintro ⟨as, st, ρ, d, st', R, E, q, P⟩
  obtain ⟨⟨x, st1⟩, e1, q⟩ := bind_some q
  refine tI_run R E e1 fun as1 H1 v x1 R1 E1 r1 => ?_
  cases r1 with
  | int i =>
    cases q
    exact ⟨i, rfl, P as1 H1 x1 R1⟩
  | _ => cases q
def cutG {α : Type} (xs : List α) (lo hi : Option Int) : List α := (xs.drop (HT.sIx xs.length 0 lo)).take (HT.sIx xs.length xs.length hi - HT.sIx xs.length 0 lo)
def slO (x : D) (lo hi : Option Int) (st : Sto) : Option (D × Sto) := match x with
  | .str l => if l.length ≤ LIM then some (.str (cutG l lo hi), st) else none
  | .tup ds => if HT.sIx ds.length 0 lo = 0 ∧ HT.sIx ds.length ds.length hi = ds.length then none else some (.tup (cutG ds lo hi), st)
  | .ref k => (rdL st k).map fun ds => (.ref st.length, st ++ [.lst (cutG ds lo hi)])
  | _ => none
def eSl (f : ME) (p q : MO) : ME := fun ρ st => (f ρ st).bind fun x => (p ρ x.2).bind fun y => (q ρ y.2).bind fun z => slO x.1 y.1 z.1 z.2
theorem VRs.cut {K : PySem.W.Frag} {as : List Addr} {H : Hp} {ds : List D} {vs : List V} (r : VRs K as H ds vs) (lo hi : Option Int) : VRs K as H (cutG ds lo hi) (cutV vs lo hi) := by
  unfold cutG cutV
  rw [r.length]
  exact (r.drop _).take _
theorem ie_sl {lo hi : Option Expr} {p q : MO} {p2 : Pos} (ha : IE X cad a f) (hl : IO' X cad lo p) (hh : IO' X cad hi q) : IE X cad (.Subscript a (.Slice lo hi none p2) pos) (eSl f p q) := by
  refine pe_weak (pe_slice (sl_list.or (sl_tup.or sl_str)) ha hl hh) fun σ H Q => ?_
  rintro ⟨as, st, ρ, d, st', R, E, w, P⟩
  obtain ⟨⟨x, st1⟩, e1, w⟩ := bind_some w
  obtain ⟨⟨y, st2⟩, e2, w⟩ := bind_some w
  obtain ⟨⟨z, st3⟩, e3, w⟩ := bind_some w
  refine tI_run R E e1 fun as1 H1 v x1 R1 E1 r1 => ⟨as1, st1, ρ, y, st2, R1, E1, e2, fun as2 H2 x2 R2 => ⟨as2, st2, ρ, z, st3, R2, E1.mono x2, e3, fun as3 H3 x3 R3 => ?_⟩⟩
  have r3 := r1.mono (x2.trans x3)
  have P3 := P.ext (x1.trans (x2.trans x3))
  cases r3 with
  | @str l hl =>
    simp only [slO] at w
    split at w
    · rename_i hz
      cases w
      refine .inr (.inr ⟨mkS l, rfl, ?_, ?_⟩)
      · rw [mkS_len]
        exact lim_ok hz
      · have e4 : cutS (mkS l) y z = mkS (cutG l y z) := by
          unfold cutS cutG mkS
          simp [Str.length]
        rw [e4]
        exact P3.now R3 (.str (okS_sub hl fun c hc => List.mem_of_mem_drop (List.mem_of_mem_take hc)))
    · cases w
  | @tup b xs ds hs rs =>
    simp only [slO] at w
    split at w
    · cases w
    · rename_i hz
      cases w
      refine .inr (.inl ⟨b, xs, rfl, hs, ?_, fun p hp => P3.tup R3 (rs.cut y z) hp⟩)
      rw [← rs.length]
      exact hz
  | @ref k b hb =>
    obtain ⟨ds, e4, e5⟩ := map_some w
    cases e5
    obtain ⟨xs, hs, rs⟩ := R3.rdL e4 hb
    exact .inl ⟨b, xs, rfl, hs, fun p hp => P3.lst R3 (rs.cut y z) hp⟩
  | _ => cases w
end
end MP

set_option maxRecDepth 100000
/-! MP 6: calls of the text's own defs, of built-ins, of methods of built-in types. -/
namespace MP
open PySem PySem.Spec PyProof.Rows L2

/-- what a def tells of its arguments -/
abbrev FN := List D → Sto → Option (D × Sto)
def spOf (K : PySem.W.Frag) (cad : Cad) (F : FN) : Sp := fun vs H Q _ => ∃ as st ds d st', Rel K cad as st H ∧ VRs K as H ds vs ∧ F ds st = some (d, st') ∧ Post K cad as H st' d Q
/-- x is a def of the text that tells F, of as many values as it has params without dds -/
structure FnFact (P : Program) (w : World) (K : PySem.W.Frag) (mg : Str → Option Value) (base : Heap) (cad : Cad) (x : Str) (k : Nat) (dds : List D) (F : FN) : Prop where
  ex : ∃ (f : Addr) (fd : FuncData) (ps : List Str) (dvs : List V) (dus : List Value), FnOk P w K mg base CX0 k f fd ps (spOf K cad F) ∧ mg x = some (.ref f) ∧ PySem.W.keepIn K (.ref f) = true ∧ Binds K fd ps dus ∧ Vals dvs dus ∧ ∀ as H, VRs K as H dds dvs
def eCall (F : FN) (g : MA) : ME := fun ρ st => (g ρ st).bind fun p => F p.1 p.2
def eCallD (F : FN) (dds : List D) (g : MA) : ME := fun ρ st => (g ρ st).bind fun p => F (p.1 ++ dds) p.2
section
variable {X : Cx} {cad : Cad} {e a b c : Expr} {f h : ME} {g : MA} {pos p apos : Pos} {es : List Expr} {x : Str} {k : Nat} {F : FN} {dds : List D}
theorem ie_callD (G : FnFact X.prog X.w X.K X.mg X.base cad x k dds F) (hr : Room k X.A) (hg : Gl X x) (ha : IA X cad (e :: es) g) (hdb : (x == ("__debug__" : Str)) = false := by decide)
    (he : starEach (e :: es) X.env = (false, eval e X.env) :: starEach es X.env := by rfl) (hpl : (backTo pos (starEach es X.env)).any (·.1) = false := by rfl) : IE X cad (.Call (.Name x p) (e :: es) [] pos) (eCallD F dds g) := by
  obtain ⟨fa, fd, ps, dvs, dus, G, hm, hk, hb, hd, hv⟩ := G.ex
  refine pe_weak (pe_call (E := E0) G hr hg hm hk hb hd pass0 ha hdb he hpl) fun σ H Q => ?_
  rintro ⟨as, st, ρ, d, st', R, E, q, P⟩
  obtain ⟨⟨ys, st1⟩, e1, q⟩ := bind_some q
  exact tIA_run R E e1 fun as1 H1 vs x1 R1 E1 r1 => ⟨as1, st1, ys ++ dds, d, st', R1, r1.append (hv as1 H1), q, P.ext x1⟩
theorem ie_call (G : FnFact X.prog X.w X.K X.mg X.base cad x k [] F) (hr : Room k X.A) (hg : Gl X x) (ha : IA X cad (e :: es) g) (hdb : (x == ("__debug__" : Str)) = false := by decide)
    (he : starEach (e :: es) X.env = (false, eval e X.env) :: starEach es X.env := by rfl) (hpl : (backTo pos (starEach es X.env)).any (·.1) = false := by rfl) : IE X cad (.Call (.Name x p) (e :: es) [] pos) (eCall F g) := by
  have h := ie_callD G hr hg ha hdb he hpl (p := p)
  refine pe_weak h fun σ H Q => ?_
  rintro ⟨as, st, ρ, d, st', R, E, q, P⟩
  refine ⟨as, st, ρ, d, st', R, E, ?_, P⟩
  unfold eCallD
  simp only [List.append_nil]
  exact q
theorem ie_callD0 (G : FnFact X.prog X.w X.K X.mg X.base cad x k dds F) (hr : Room k X.A) (hg : Gl X x) (hdb : (x == ("__debug__" : Str)) = false := by decide) : IE X cad (.Call (.Name x p) [] [] pos) (eCallD F dds aNil) := by
  obtain ⟨fa, fd, ps, dvs, dus, G, hm, hk, hb, hd, hv⟩ := G.ex
  refine pe_weak (pe_call0 (E := E0) G hr hg hm hk hb hd pass0 hdb) fun σ H Q => ?_
  rintro ⟨as, st, ρ, d, st', R, E, q, P⟩
  exact ⟨as, st, dds, d, st', R, hv as H, q, P⟩
theorem ie_call0 (G : FnFact X.prog X.w X.K X.mg X.base cad x k [] F) (hr : Room k X.A) (hg : Gl X x) (hdb : (x == ("__debug__" : Str)) = false := by decide) : IE X cad (.Call (.Name x p) [] [] pos) (eCall F aNil) := ie_callD0 G hr hg hdb

/-! ### built-ins -/
def CallD (K : PySem.W.Frag) (cad : Cad) (r : List V → Hp → VK → Prop) (o : FN) : Prop :=
  ∀ (as : List Addr) (st : Sto) (H : Hp) (ds : List D) (vs : List V) (d : D) (st' : Sto) (Q : VK), Rel K cad as st H → VRs K as H ds vs → o ds st = some (d, st') → Post K cad as H st' d Q → r vs H Q
theorem CallD.or1 {K : PySem.W.Frag} {r r' : List V → Hp → VK → Prop} {o : FN} (h : CallD K cad r o) : CallD K cad (fun x H Q => r x H Q ∨ r' x H Q) o := fun as st H ds vs d st' Q R r1 e P => .inl (h as st H ds vs d st' Q R r1 e P)
theorem ie_callB {id : String} {r : List V → Hp → VK → Prop} {o : FN} (hd : CallD X.K cad r o) (hc : CallR X (.builtin id) r) (hg : Gl X x) (hm : X.mg x = none) (hv : bootBuiltins x = some (.builtin id)) (ha : IA X cad (e :: es) g)
    (hn : x ≠ "__name__" := by decide) (hdb : (x == ("__debug__" : Str)) = false := by decide) (he : starEach (e :: es) X.env = (false, eval e X.env) :: starEach es X.env := by rfl) (hpl : (backTo pos (starEach es X.env)).any (·.1) = false := by rfl) :
    IE X cad (.Call (.Name x p) (e :: es) [] pos) (eCall o g) := by
  refine pe_weak (pe_callB hc hg hm hv ha hn hdb he hpl) fun σ H Q => ?_
  rintro ⟨as, st, ρ, d, st', R, E, q, P⟩
  obtain ⟨⟨ys, st1⟩, e1, q⟩ := bind_some q
  exact tIA_run R E e1 fun as1 H1 vs x1 R1 E1 r1 => hd as1 st1 H1 ys vs d st' Q R1 r1 q (P.ext x1)
theorem ie_callTy {T : String} {r : List V → Hp → VK → Prop} {o : FN} (hd : CallD X.K cad r o) (hc : CallR X (.type T) r) (hg : Gl X x) (hm : X.mg x = none) (hv : bootBuiltins x = some (.type T)) (ha : IA X cad (e :: es) g)
    (hn : x ≠ "__name__" := by decide) (hdb : (x == ("__debug__" : Str)) = false := by decide) (he : starEach (e :: es) X.env = (false, eval e X.env) :: starEach es X.env := by rfl) (hpl : (backTo pos (starEach es X.env)).any (·.1) = false := by rfl) :
    IE X cad (.Call (.Name x p) (e :: es) [] pos) (eCall o g) := by
  refine pe_weak (pe_callTy hc hg hm hv ha hn hdb he hpl) fun σ H Q => ?_
  rintro ⟨as, st, ρ, d, st', R, E, q, P⟩
  obtain ⟨⟨ys, st1⟩, e1, q⟩ := bind_some q
  exact tIA_run R E e1 fun as1 H1 vs x1 R1 E1 r1 => hd as1 st1 H1 ys vs d st' Q R1 r1 q (P.ext x1)
/-- one value in, one out, the store as it is -/
def o1 (o : D → Sto → Option D) : FN := fun ds st => match ds with
  | [x] => (o x st).map fun d => (d, st)
  | _ => none
theorem cd1 {K : PySem.W.Frag} {r : List V → Hp → VK → Prop} {o : D → Sto → Option D} (h : ∀ (as : List Addr) (st : Sto) (H : Hp) (x : D) (v : V) (d : D) (Q : VK), Rel K cad as st H → VR K as H x v → o x st = some d → Post K cad as H st d Q → r [v] H Q) : CallD K cad r (o1 o) := by
  intro as st H ds vs d st' Q R r1 e P
  match ds, r1, e with
  | [x], .cons r2 .nil, e =>
    obtain ⟨d', e1, e2⟩ := map_some e
    obtain ⟨rfl, rfl⟩ := Prod.mk.inj e2
    exact h as st H x _ d' Q R r2 e1 P
def lenO (x : D) (st : Sto) : Option D := match x with
  | .str l => if l.length ≤ LIM then some (.int l.length) else none
  | .tup ds => some (.int ds.length)
  | .ref k => match rdL st k with
    | some ds => some (.int ds.length)
    | none => (myD st k).map fun kvs => .int kvs.length
  | _ => none
def rLenA (K : PySem.W.Frag) : List V → Hp → VK → Prop := fun xs H Q => (∃ x n, xs = [x] ∧ LenV K x H n ∧ Q (.int n) H) ∨ ∃ a kvs, xs = [V.ref a] ∧ H a = some (.dK kvs) ∧ Q (.int kvs.length) H
theorem cr_lenA : CallR X (.builtin "len") (rLenA X.K) := call_len.or call_lenD
theorem KVR.length {K : PySem.W.Frag} {as : List Addr} {H : Hp} {kvs : List (Key × D)} {xs : List (Key × V)} (r : KVR K as H kvs xs) : kvs.length = xs.length := Paired.length r
theorem cd_len {K : PySem.W.Frag} : CallD K cad (rLenA K) (o1 lenO) := cd1 fun as st H x v d Q R r e P => by
  cases r with
  | @str l hl =>
    simp only [lenO] at e
    split at e
    · rename_i hz
      cases e
      refine .inl ⟨_, l.length, rfl, ⟨?_, ?_⟩, P.now R (.int _)⟩
      · rw [mkS_len]
        exact lim_ok hz
      · rw [mkS_len]
    · cases e
  | @tup a xs ds hs rs =>
    cases e
    exact .inl ⟨_, ds.length, rfl, .inr ⟨xs, hs, rs.length⟩, P.now R (.int _)⟩
  | @ref n a ha =>
    simp only [lenO] at e
    split at e
    · rename_i ds e0
      cases e
      obtain ⟨xs, hs, rs⟩ := R.rdL e0 ha
      exact .inl ⟨_, ds.length, rfl, .inl ⟨xs, hs, rs.length⟩, P.now R (.int _)⟩
    · obtain ⟨kvs, e1, rfl⟩ := map_some e
      obtain ⟨xs, hs, rs⟩ := R.myD e1 ha
      refine .inr ⟨a, xs, rfl, hs, ?_⟩
      have h2 := P.now R (.int _)
      rw [rs.length] at h2
      exact h2
  | _ => cases e
theorem ie_len (hg : Gl X "len") (hm : X.mg "len" = none) (ha : IA X cad (e :: es) g) (he : starEach (e :: es) X.env = (false, eval e X.env) :: starEach es X.env := by rfl) (hpl : (backTo pos (starEach es X.env)).any (·.1) = false := by rfl) :
    IE X cad (.Call (.Name "len" p) (e :: es) [] pos) (eCall (o1 lenO) g) := ie_callB cd_len cr_lenA hg hm (by decide +kernel) ha (by decide) (by decide) he hpl
def absO (x : D) (_ : Sto) : Option D := match x with
  | .int i => some (.int (if i < 0 then -i else i))
  | _ => none
theorem cd_abs {K : PySem.W.Frag} : CallD K cad (fun xs H Q => ∃ i, xs = [V.int i] ∧ Q (.int (if i < 0 then -i else i)) H) (o1 absO) := cd1 fun as st H x v d Q R r e P => by
  cases r with
  | int i => cases e; exact ⟨i, rfl, P.now R (.int _)⟩
  | _ => cases e
theorem ie_abs (hg : Gl X "abs") (hm : X.mg "abs" = none) (ha : IA X cad (e :: es) g) (he : starEach (e :: es) X.env = (false, eval e X.env) :: starEach es X.env := by rfl) (hpl : (backTo pos (starEach es X.env)).any (·.1) = false := by rfl) :
    IE X cad (.Call (.Name "abs" p) (e :: es) [] pos) (eCall (o1 absO) g) := ie_callB cd_abs call_abs hg hm (by decide +kernel) ha (by decide) (by decide) he hpl
def intO (x : D) (_ : Sto) : Option D := match x with
  | .int i => some (.int i)
  | .bl k => some (.int (if k then 1 else 0))
  | _ => none
theorem cd_int {K : PySem.W.Frag} : CallD K cad (fun xs H Q => (∃ i, xs = [V.int i] ∧ Q (.int i) H) ∨ ∃ k, xs = [V.bl k] ∧ Q (.int (if k then 1 else 0)) H) (o1 intO) := cd1 fun as st H x v d Q R r e P => by
  cases r with
  | int i => cases e; exact .inl ⟨i, rfl, P.now R (.int _)⟩
  | bl i => cases e; exact .inr ⟨i, rfl, P.now R (.int _)⟩
  | _ => cases e
theorem ie_toInt (hg : Gl X "int") (hm : X.mg "int" = none) (ha : IA X cad (e :: es) g) (he : starEach (e :: es) X.env = (false, eval e X.env) :: starEach es X.env := by rfl) (hpl : (backTo pos (starEach es X.env)).any (·.1) = false := by rfl) :
    IE X cad (.Call (.Name "int" p) (e :: es) [] pos) (eCall (o1 intO) g) := ie_callTy cd_int call_int1 hg hm (by decide +kernel) ha (by decide) (by decide) he hpl
/-- all, any of a list of truths -/
def blsO : List D → Option (List Bool)
  | [] => some []
  | .bl b :: r => (blsO r).map fun s => b :: s
  | _ => none
theorem blsO_to {K : PySem.W.Frag} {as : List Addr} {H : Hp} : ∀ {ds : List D} {vs : List V} {bs : List Bool}, VRs K as H ds vs → blsO ds = some bs → vs = bs.map V.bl
  | _, _, _, .nil, e => by cases e; rfl
  | d :: ds, v :: vs, bs, .cons r t, e => by
    cases r with
    | bl b =>
      obtain ⟨s, e1, rfl⟩ := map_some e
      rw [blsO_to t e1]
      rfl
    | _ => cases e
def allO (x : D) (st : Sto) : Option D := match x with
  | .ref k => ((rdL st k).bind blsO).map fun bs => .bl (bs.all id)
  | _ => none
def anyO (x : D) (st : Sto) : Option D := match x with
  | .ref k => ((rdL st k).bind blsO).map fun bs => .bl (bs.any id)
  | _ => none
theorem cd_all {K : PySem.W.Frag} : CallD K cad (rAll K) (o1 allO) := cd1 fun as st H x v d Q R r e P => by
  cases r with
  | @ref n a ha =>
    obtain ⟨bs, e1, rfl⟩ := map_some e
    obtain ⟨ds, e2, e3⟩ := bind_some e1
    obtain ⟨xs, hs, rs⟩ := R.rdL e2 ha
    rw [blsO_to rs e3] at hs
    exact ⟨a, bs, rfl, hs, P.now R (.bl _)⟩
  | _ => cases e
theorem cd_any {K : PySem.W.Frag} : CallD K cad (rAny K) (o1 anyO) := cd1 fun as st H x v d Q R r e P => by
  cases r with
  | @ref n a ha =>
    obtain ⟨bs, e1, rfl⟩ := map_some e
    obtain ⟨ds, e2, e3⟩ := bind_some e1
    obtain ⟨xs, hs, rs⟩ := R.rdL e2 ha
    rw [blsO_to rs e3] at hs
    exact ⟨a, bs, rfl, hs, P.now R (.bl _)⟩
  | _ => cases e
theorem ie_all (hc : X.calm = true) (hg : Gl X "all") (hm : X.mg "all" = none) (ha : IA X cad (e :: es) g) (he : starEach (e :: es) X.env = (false, eval e X.env) :: starEach es X.env := by rfl) (hpl : (backTo pos (starEach es X.env)).any (·.1) = false := by rfl) :
    IE X cad (.Call (.Name "all" p) (e :: es) [] pos) (eCall (o1 allO) g) := ie_callB cd_all (cr_all hc) hg hm (by decide +kernel) ha (by decide) (by decide) he hpl
theorem ie_any (hc : X.calm = true) (hg : Gl X "any") (hm : X.mg "any" = none) (ha : IA X cad (e :: es) g) (he : starEach (e :: es) X.env = (false, eval e X.env) :: starEach es X.env := by rfl) (hpl : (backTo pos (starEach es X.env)).any (·.1) = false := by rfl) :
    IE X cad (.Call (.Name "any" p) (e :: es) [] pos) (eCall (o1 anyO) g) := ie_callB cd_any (cr_any hc) hg hm (by decide +kernel) ha (by decide) (by decide) he hpl
/-- the text of a number -/
def sgnI (i : Int) : List Nat := (toString i).toList.map Char.toNat
theorem okS_chars (l : List Char) : okS (l.map Char.toNat) = true := okS_of fun c hc => by
  obtain ⟨z, _, rfl⟩ := List.mem_map.mp hc
  have h := z.valid
  show z.toNat < 1114112
  have h2 : z.toNat = z.val.toNat := rfl
  rw [h2]
  rcases h with h | h
  · omega
  · omega
def strO (x : D) (_ : Sto) : Option D := match x with
  | .int i => if i.natAbs.log2 < 1920 then some (.str (sgnI i)) else none
  | _ => none
theorem cd_str {K : PySem.W.Frag} : CallD K cad (fun xs H Q => ∃ i, xs = [V.int i] ∧ i.natAbs.log2 < 1920 ∧ Q (.str (toString i)) H) (o1 strO) := cd1 fun as st H x v d Q R r e P => by
  cases r with
  | int i =>
    simp only [strO] at e
    split at e
    · rename_i hz
      cases e
      refine ⟨i, rfl, hz, ?_⟩
      have h1 : (Str.ofString (toString i)) = mkS (sgnI i) := by
        rw [← mkS_of (Str.ofString (toString i))]
        congr 1
        exact TL.tl_ofString _
      show Q (.str (Str.ofString (toString i))) H
      rw [h1]
      exact P.now R (.str (okS_chars _))
    · cases e
  | _ => cases e
theorem ie_toStr (hg : Gl X "str") (hm : X.mg "str" = none) (ha : IA X cad (e :: es) g) (he : starEach (e :: es) X.env = (false, eval e X.env) :: starEach es X.env := by rfl) (hpl : (backTo pos (starEach es X.env)).any (·.1) = false := by rfl) :
    IE X cad (.Call (.Name "str" p) (e :: es) [] pos) (eCall (o1 strO) g) := ie_callTy cd_str call_str_int hg hm (by decide +kernel) ha (by decide) (by decide) he hpl
/-- list(x), tuple(x) -/
def listF : FN := fun ds st => match ds with
  | [.ref k] => (rdL st k).map fun xs => (.ref st.length, st ++ [.lst xs])
  | [.tup xs] => some (.ref st.length, st ++ [.lst xs])
  | _ => none
theorem cd_list {K : PySem.W.Frag} : CallD K cad (fun xs H Q => ∃ p ys, xs = [V.ref p] ∧ (SqL K H p ys ∨ SqT K H p ys) ∧ ∀ l, H l = none → Q (.ref l) (upd H l (.lst ys))) listF := by
  intro as st H ds vs d st' Q R r1 e P
  cases r1 with
  | nil => cases e
  | cons r2 t =>
    cases t with
    | cons _ _ => cases r2 <;> cases e
    | nil =>
      cases r2 with
      | @tup a xs es hs rs =>
        cases e
        exact ⟨a, xs, rfl, .inr hs, fun p hp => P.lst R rs hp⟩
      | @ref n a ha =>
        obtain ⟨ds, e1, e2⟩ := map_some e
        cases e2
        obtain ⟨xs, hs, rs⟩ := R.rdL e1 ha
        exact ⟨a, xs, rfl, .inl hs, fun p hp => P.lst R rs hp⟩
      | _ => cases e
theorem ie_toList (hg : Gl X "list") (hm : X.mg "list" = none) (ha : IA X cad (e :: es) g) (he : starEach (e :: es) X.env = (false, eval e X.env) :: starEach es X.env := by rfl) (hpl : (backTo pos (starEach es X.env)).any (·.1) = false := by rfl) :
    IE X cad (.Call (.Name "list" p) (e :: es) [] pos) (eCall listF g) := ie_callTy cd_list call_list_of hg hm (by decide +kernel) ha (by decide) (by decide) he hpl
def tupleO (x : D) (st : Sto) : Option D := match x with
  | .ref k => (rdL st k).map fun xs => .tup xs
  | .tup xs => some (.tup xs)
  | _ => none
theorem cd_tuple {K : PySem.W.Frag} : CallD K cad (fun xs H Q => ∃ p ys, xs = [V.ref p] ∧ ((SqL K H p ys ∧ ∀ l, H l = none → Q (.ref l) (upd H l (.tup ys))) ∨ (SqT K H p ys ∧ Q (.ref p) H))) (o1 tupleO) := cd1 fun as st H x v d Q R r e P => by
  cases r with
  | @tup a xs es hs rs =>
    cases e
    exact ⟨a, xs, rfl, .inr ⟨hs, P.now R (.tup hs rs)⟩⟩
  | @ref n a ha =>
    obtain ⟨ds, e1, e2⟩ := map_some e
    cases e2
    obtain ⟨xs, hs, rs⟩ := R.rdL e1 ha
    exact ⟨a, xs, rfl, .inl ⟨hs, fun p hp => P.tup R rs hp⟩⟩
  | _ => cases e
theorem ie_toTuple (hg : Gl X "tuple") (hm : X.mg "tuple" = none) (ha : IA X cad (e :: es) g) (he : starEach (e :: es) X.env = (false, eval e X.env) :: starEach es X.env := by rfl) (hpl : (backTo pos (starEach es X.env)).any (·.1) = false := by rfl) :
    IE X cad (.Call (.Name "tuple" p) (e :: es) [] pos) (eCall (o1 tupleO) g) := ie_callTy cd_tuple call_tuple_of hg hm (by decide +kernel) ha (by decide) (by decide) he hpl

/-! ### isinstance -/
inductive Ty where
  | non | bl | int | str | tup | lst | dic
  deriving DecidableEq
def Ty.name : Ty → String
  | .non => "NoneType"
  | .bl => "bool"
  | .int => "int"
  | .str => "str"
  | .tup => "tuple"
  | .lst => "list"
  | .dic => "dict"
def Ty.isa (t n : Ty) : Bool := decide (t = n) || (decide (t = .bl) && decide (n = .int))
theorem Ty.kit (t n : Ty) (h : n ≠ .non) : kitB t.name n.name = some (t.isa n) := by
  cases n with
  | non => exact absurd rfl h
  | bl => cases t <;> decide +kernel
  | int => cases t <;> decide +kernel
  | str => cases t <;> decide +kernel
  | tup => cases t <;> decide +kernel
  | lst => cases t <;> decide +kernel
  | dic => cases t <;> decide +kernel
def tyD (st : Sto) : D → Option Ty
  | .non => some .non
  | .bl _ => some .bl
  | .int _ => some .int
  | .str _ => some .str
  | .tup _ => some .tup
  | .ref k => match st[k]? with
    | some (.lst _) => some .lst
    | some (.fz _) => some .lst
    | some (.dic _) => some .dic
    | _ => none
theorem tyD_ok {K : PySem.W.Frag} {as : List Addr} {st : Sto} {H : Hp} {d : D} {v : V} {t : Ty} (R : Rel K cad as st H) (r : VR K as H d v) (e : tyD st d = some t) : TyX K H v (.type t.name) := by
  have frL : ∀ {a : Addr} {xs : List V}, SqL K H a xs → TyX K H (.ref a) (.type "list") := fun {a xs} h => by
    rcases h with (h | ⟨o, h⟩) | ⟨o, its, n, hk, hc, _⟩
    · exact .base (.lst h)
    · exact .base (.frz h)
    · exact .kList hk hc
  cases r with
  | non => cases e; exact .base .non
  | bl b => cases e; exact .base (.bl b)
  | int i => cases e; exact .base (.int i)
  | str h => cases e; exact .base (.str _)
  | @tup a xs ds hs rs =>
    cases e
    rcases hs with (h | ⟨o, h⟩) | ⟨o, its, n, hk, hc, _⟩
    · exact .base (.tup h)
    · exact .fTuple h
    · exact .kTuple hk hc
  | @ref n a ha =>
    simp only [tyD] at e
    split at e
    · rename_i ds e1
      cases e
      obtain ⟨xs, q, _⟩ := R.ob n _ a e1 ha
      exact .base (.lst q)
    · rename_i ds e1
      cases e
      obtain ⟨xs, hs, _⟩ := R.rdL (ds := ds) (by unfold rdL; rw [e1]) ha
      exact frL hs
    · rename_i ds e1
      cases e
      obtain ⟨xs, q, _⟩ := R.ob n _ a e1 ha
      exact .base (.dK q)
    · cases e
def isiO (ns : List Ty) : D → Sto → Option (D × Sto) := fun x st => (tyD st x).map fun t => (.bl (ns.any fun n => t.isa n), st)
theorem kitAny_of {K : PySem.W.Frag} {t : Ty} : ∀ {ns : List Ty}, (∀ n ∈ ns, n ≠ .non) → PySem.W.kitAny K (.type t.name) (ns.map fun n => Value.type n.name) = some (ns.any fun n => t.isa n)
  | [], _ => kitAny_nil
  | n :: r, h => by
    refine kitAny_cons (kit_ty (Ty.kit t n (h n (List.mem_cons_self ..)))) (fun hb => ?_) (fun hb => ?_)
    · rw [kitAny_of fun z hz => h z (List.mem_cons_of_mem _ hz), List.any_cons, hb]
      rfl
    · rw [List.any_cons, hb]
      rfl
/-- isinstance(a, T) -/
theorem ie_isi {n : Ty} {y : Str} {p2 : Pos} (hn : n ≠ .non) (hg : Gl X "isinstance") (hm : X.mg "isinstance" = none) (ha : IE X cad a f) (hb : PE X (.Name y p2) (tC (.ty n.name)))
    (hs : starEach [a, .Name y p2] X.env = (false, eval a X.env) :: starEach [.Name y p2] X.env := by rfl) (hs2 : starEach [.Name y p2] X.env = (false, eval (.Name y p2) X.env) :: starEach [] X.env := by rfl)
    (hpl : (backTo pos (starEach [.Name y p2] X.env)).any (·.1) = false := by rfl) : IE X cad (.Call (.Name "isinstance" p) [a, .Name y p2] [] pos) (eUn (isiO [n]) f) := by
  refine pe_weak (pe_callB call_isi hg hm (by decide +kernel) (pa_cons ha (pa_cons hb pa_nil hs2) hs) (by decide) (by decide) hs hpl) fun σ H Q => ?_
  rintro ⟨as, st, ρ, d, st', R, E, q, P⟩
  obtain ⟨⟨x, st1⟩, e1, q⟩ := bind_some q
  obtain ⟨t, e2, e3⟩ := map_some q
  obtain ⟨rfl, rfl⟩ := Prod.mk.inj e3
  refine tI_run R E e1 fun as1 H1 v x1 R1 E1 r1 => ⟨v, .ty n.name, _, _, t.isa n, rfl, .ty _, tyD_ok R1 r1 e2, kit_ty (Ty.kit t n hn), ?_⟩
  have h2 := (P.ext x1).now R1 (.bl _)
  simpa using h2
/-- isinstance(a, (T, U)) -/
theorem ie_isi2 {n m : Ty} {y z : Str} {p2 p3 p4 : Pos} {k : Nat} (hn : n ≠ .non) (hm' : m ≠ .non) (hg : Gl X "isinstance") (hm : X.mg "isinstance" = none) (ha : IE X cad a f) (hb : PE X (.Name y p2) (tC (.ty n.name))) (hc : PE X (.Name z p3) (tC (.ty m.name)))
    (hs : starEach [a, .Tuple [.Name y p2, .Name z p3] k p4] X.env = (false, eval a X.env) :: starEach [.Tuple [.Name y p2, .Name z p3] k p4] X.env := by rfl)
    (hs2 : starEach [.Tuple [.Name y p2, .Name z p3] k p4] X.env = (false, eval (.Tuple [.Name y p2, .Name z p3] k p4) X.env) :: starEach [] X.env := by rfl)
    (hs3 : starEach [.Name y p2, .Name z p3] X.env = (false, eval (.Name y p2) X.env) :: starEach [.Name z p3] X.env := by rfl) (hs4 : starEach [.Name z p3] X.env = (false, eval (.Name z p3) X.env) :: starEach [] X.env := by rfl)
    (hpl : (backTo pos (starEach [.Tuple [.Name y p2, .Name z p3] k p4] X.env)).any (·.1) = false := by rfl) : IE X cad (.Call (.Name "isinstance" p) [a, .Tuple [.Name y p2, .Name z p3] k p4] [] pos) (eUn (isiO [n, m]) f) := by
  refine pe_weak (pe_callB call_isiT hg hm (by decide +kernel) (pa_cons ha (pa_cons (pe_tup (pa_cons hb (pa_cons hc pa_nil hs4) hs3)) pa_nil hs2) hs) (by decide) (by decide) hs hpl) fun σ H Q => ?_
  rintro ⟨as, st, ρ, d, st', R, E, q, P⟩
  obtain ⟨⟨x, st1⟩, e1, q⟩ := bind_some q
  obtain ⟨t, e2, e3⟩ := map_some q
  obtain ⟨rfl, rfl⟩ := Prod.mk.inj e3
  refine tI_run R E e1 fun as1 H1 v x1 R1 E1 r1 => ⟨(by show 2 ≤ sizeLine; decide), fun q hq => ?_⟩
  have x2 : Ext X.K as1 H1 as1 (upd H1 q (.tup [.ty n.name, .ty m.name])) := Ext.fresh hq
  refine ⟨v, q, _, _, [.type n.name, .type m.name], _, rfl, upd_same, .cons (.ty _) (.cons (.ty _) .nil), tyD_ok (R1.fresh hq) (r1.mono x2) e2, kitAny_of (ns := [n, m]) (fun z hz => ?_), ?_⟩
  · rcases List.mem_cons.mp hz with rfl | hz
    · exact hn
    · rcases List.mem_cons.mp hz with rfl | hz
      · exact hm'
      · cases hz
  · exact ((P.ext x1).ext x2).now (R1.fresh hq) (.bl _)

/-! ### methods of built-in types -/
def eBM (chk : Sto → D → Bool) (o : D → FN) (f : ME) (g : MA) : ME := fun ρ st => (f ρ st).bind fun p => if chk p.2 p.1 = true then (g ρ p.2).bind fun q => o p.1 q.1 q.2 else none
def MtD (K : PySem.W.Frag) (cad : Cad) (r : V → List V → Hp → VK → Prop) (o : D → FN) : Prop :=
  ∀ (as : List Addr) (st : Sto) (H : Hp) (x : D) (v : V) (ds : List D) (vs : List V) (d : D) (st' : Sto) (Q : VK), Rel K cad as st H → VR K as H x v → VRs K as H ds vs → o x ds st = some (d, st') → Post K cad as H st' d Q → r v vs H Q
def isL (st : Sto) : D → Bool
  | .ref k => (rdL st k).isSome
  | _ => false
def isS (_ : Sto) : D → Bool
  | .str _ => true
  | _ => false
theorem isL_ty {K : PySem.W.Frag} {as : List Addr} {st : Sto} {H : Hp} {d : D} {v : V} (R : Rel K cad as st H) (r : VR K as H d v) (e : isL st d = true) : tyV K "list" v H := by
  cases r with
  | @ref n a ha =>
    obtain ⟨ds, e1⟩ := Option.isSome_iff_exists.mp e
    obtain ⟨xs, hs, _⟩ := R.rdL e1 ha
    exact .inl ⟨rfl, xs, hs⟩
  | _ => cases e
theorem isS_ty {K : PySem.W.Frag} {as : List Addr} {st : Sto} {H : Hp} {d : D} {v : V} (r : VR K as H d v) (e : isS st d = true) : tyV K "str" v H := by
  cases r with
  | str h => rfl
  | _ => cases e
theorem ie_bm {T id : String} {name : Str} {r : V → List V → Hp → VK → Prop} {chk : Sto → D → Bool} {o : D → FN} {cpos : Pos} (hty0 : ∀ as st H d v, Rel X.K cad as st H → VR X.K as H d v → chk st d = true → tyV X.K T v H) (hd : MtD X.K cad r o)
    (pa : PlainAttrs T) (slot : Slot T name id) (hty : typeOf (.builtin id) = pure (.type "method_descriptor")) (hm : MtR X id r) (ha : IE X cad a f) (hes : IA X cad (e :: es) g)
    (hbase : attributeBase a name X.env (eval a X.env) = eval a X.env := by rfl)
    (hfew : ((backTo cpos (starEach (e :: es) X.env)).all (fun x => !x.1) && (backToKw cpos (keywordEach [] X.env)).all (fun x => x.1.isSome)
      && decide ((e :: es).length + ([] : List Keyword).length + (if ([] : List Keyword).isEmpty then 0 else 1) < 30)) = true := by rfl)
    (hline : (apos.endLine == cpos.line) = true := by rfl) (hs : starEach (e :: es) X.env = (false, eval e X.env) :: starEach es X.env := by rfl) (hplain : (backTo cpos (starEach es X.env)).any (·.1) = false := by rfl) :
    IE X cad (.Call (.Attribute a name apos) (e :: es) [] cpos) (eBM chk o f g) := by
  refine pe_weak (pe_bm pa slot hty hm ha hes hbase hfew hline hs hplain) fun σ H Q => ?_
  rintro ⟨as, st, ρ, d, st', R, E, q, P⟩
  obtain ⟨⟨x, st1⟩, e1, q⟩ := bind_some q
  simp only at q
  split at q
  · rename_i hc
    obtain ⟨⟨ys, st2⟩, e2, q⟩ := bind_some q
    exact tI_run R E e1 fun as1 H1 v x1 R1 E1 r1 => ⟨hty0 _ _ _ _ _ R1 r1 hc, tIA_run R1 E1 e2 fun as2 H2 vs x2 R2 E2 r2 => hd as2 st2 H2 x v ys vs d st' Q R2 (r1.mono x2) r2 q (P.ext (x1.trans x2))⟩
  · cases q
theorem ie_bm0 {T id : String} {name : Str} {r : V → List V → Hp → VK → Prop} {chk : Sto → D → Bool} {o : D → FN} {cpos : Pos} (hty0 : ∀ as st H d v, Rel X.K cad as st H → VR X.K as H d v → chk st d = true → tyV X.K T v H) (hd : MtD X.K cad r o)
    (pa : PlainAttrs T) (slot : Slot T name id) (hty : typeOf (.builtin id) = pure (.type "method_descriptor")) (hm : MtR X id r) (ha : IE X cad a f)
    (hbase : attributeBase a name X.env (eval a X.env) = eval a X.env := by rfl) (hline : (apos.endLine == cpos.line) = true := by rfl) :
    IE X cad (.Call (.Attribute a name apos) [] [] cpos) (eBM chk o f aNil) := by
  refine pe_weak (pe_bm0 pa slot hty hm ha hbase hline) fun σ H Q => ?_
  rintro ⟨as, st, ρ, d, st', R, E, q, P⟩
  obtain ⟨⟨x, st1⟩, e1, q⟩ := bind_some q
  simp only at q
  split at q
  · rename_i hc
    obtain ⟨⟨ys, st2⟩, e2, q⟩ := bind_some q
    cases e2
    exact tI_run R E e1 fun as1 H1 v x1 R1 E1 r1 => ⟨hty0 _ _ _ _ _ R1 r1 hc, hd as1 st1 H1 x v [] [] d st' Q R1 r1 .nil q (P.ext x1)⟩
  · cases q
/-- a list of ours changed -/
theorem Post.set {K : PySem.W.Frag} {as : List Addr} {st : Sto} {H : Hp} {n : Nat} {a : Addr} {ds ds' : List D} {xs : List V} {d : D} {v : V} {Q : VK} (P : Post K cad as H (st.set n (.lst ds')) d Q) (R : Rel K cad as st H) (e : myL st n = some ds) (ha : as[n]? = some a)
    (r : VRs K as H ds' xs) (rv : VR K as H d v) : Q v (upd H a (.lst xs)) := by
  have e1 := myL_at e
  obtain ⟨u, q, q1, q2⟩ := (R.ob n _ a e1 ha).there rfl
  have x : Ext K as H as (upd H a (.lst xs)) := ⟨⟨[], by simp⟩, fun b ys h => sqT_write q q1 q2 h⟩
  obtain ⟨R', _⟩ := R.write (u := .lst xs) (o' := .lst ds') e1 ha rfl rfl ⟨xs, upd_same, r.mono x⟩
  exact P as _ v x R' (rv.mono x)
def appM : D → FN := fun x ds st => match x, ds with
  | .ref k, [d] => match myL st k with
    | some xs => if xs.length < LIM then some (.non, st.set k (.lst (xs ++ [d]))) else none
    | none => none
  | _, _ => none
theorem md_app {K : PySem.W.Frag} : MtD K cad rAppend appM := by
  intro as st H x v ds vs d st' Q R r1 r2 e P
  cases r1 with
  | @ref n a ha =>
    match ds, r2, e with
    | [y], .cons r3 .nil, e =>
      simp only [appM] at e
      split at e
      · rename_i xs e1
        split at e
        · rename_i hl
          cases e
          obtain ⟨ws, q, rs⟩ := R.myL e1 ha
          refine ⟨a, ws, _, rfl, rfl, q, ?_, P.set R e1 ha (rs.append (.cons r3 .nil)) .non⟩
          rw [← rs.length]
          exact lim_lt hl
        · cases e
      · cases e
  | _ => cases e
theorem ie_append {cpos : Pos} (ha : IE X cad a f) (hes : IA X cad (e :: es) g) (hbase : attributeBase a "append" X.env (eval a X.env) = eval a X.env := by rfl)
    (hfew : ((backTo cpos (starEach (e :: es) X.env)).all (fun x => !x.1) && (backToKw cpos (keywordEach [] X.env)).all (fun x => x.1.isSome)
      && decide ((e :: es).length + ([] : List Keyword).length + (if ([] : List Keyword).isEmpty then 0 else 1) < 30)) = true := by rfl)
    (hline : (apos.endLine == cpos.line) = true := by rfl) (hs : starEach (e :: es) X.env = (false, eval e X.env) :: starEach es X.env := by rfl) (hplain : (backTo cpos (starEach es X.env)).any (·.1) = false := by rfl) :
    IE X cad (.Call (.Attribute a "append" apos) (e :: es) [] cpos) (eBM isL appM f g) :=
  ie_bm (fun _ _ _ _ _ R r e => isL_ty R r e) md_app PySem.F.plainAttrs_list PySem.F.slot_list_append PySem.F.type_list_append mt_append ha hes hbase hfew hline hs hplain
/-- sep.join(texts) -/
def strsO : List D → Option (List (List Nat))
  | [] => some []
  | .str l :: r => (strsO r).map fun s => l :: s
  | _ => none
theorem strsO_to {K : PySem.W.Frag} {as : List Addr} {H : Hp} : ∀ {ds : List D} {vs : List V} {ls : List (List Nat)}, VRs K as H ds vs → strsO ds = some ls → vs = (ls.map mkS).map V.str ∧ ∀ l ∈ ls, okS l = true
  | _, _, _, .nil, e => by
    cases e
    exact ⟨rfl, fun l h => by cases h⟩
  | d :: ds, v :: vs, bs, .cons r t, e => by
    cases r with
    | @str l hl =>
      obtain ⟨s, e1, rfl⟩ := map_some e
      obtain ⟨h1, h2⟩ := strsO_to t e1
      rw [h1]
      refine ⟨rfl, fun z hz => ?_⟩
      rcases List.mem_cons.mp hz with rfl | hz
      · exact hl
      · exact h2 z hz
    | _ => cases e
def joinD (s : List Nat) : List (List Nat) → List Nat := TL.joinL s
def joinM : D → FN := fun x ds st => match x, ds with
  | .str s, [.ref k] => ((rdL st k).bind strsO).bind fun ls => if (ls.map List.length).sum + ls.length * s.length ≤ 16000000 then some (.str (joinD s ls), st) else none
  | .str s, [.tup xs] => (strsO xs).bind fun ls => if (ls.map List.length).sum + ls.length * s.length ≤ 16000000 then some (.str (joinD s ls), st) else none
  | _, _ => none
theorem mem_joinL (s : List Nat) : ∀ (ls : List (List Nat)) (c : Nat), c ∈ TL.joinL s ls → c ∈ s ∨ ∃ l ∈ ls, c ∈ l
  | [], c, h => by cases h
  | [p], c, h => .inr ⟨p, List.mem_cons_self .., h⟩
  | p :: q :: r, c, h => by
    have h' : c ∈ p ++ (s ++ TL.joinL s (q :: r)) := h
    rcases List.mem_append.mp h' with h | h
    · exact .inr ⟨p, List.mem_cons_self .., h⟩
    · rcases List.mem_append.mp h with h | h
      · exact .inl h
      · rcases mem_joinL s (q :: r) c h with h | ⟨l, hl, hc⟩
        · exact .inl h
        · exact .inr ⟨l, List.mem_cons_of_mem _ hl, hc⟩
theorem join_to (s : List Nat) (ls : List (List Nat)) : Txt.join (mkS s) (ls.map mkS) = mkS (joinD s ls) := by
  rw [TL.join_eq, ← mkS_of (Str.join _ _)]
  congr 1
  have := TL.tl_join (mkS s) (ls.map mkS)
  rw [List.map_map] at this
  have e : (TL.tl ∘ mkS) = id := by
    funext l
    rfl
  rw [e, List.map_id] at this
  exact this
theorem md_join {K : PySem.W.Frag} : MtD K cad (fun x xs H Q => ∃ a p, ∃ ys : List Str, x = .str a ∧ xs = [.ref p] ∧ (SqL K H p (ys.map V.str) ∨ SqT K H p (ys.map V.str)) ∧ (ys.map (·.length)).sum + ys.length * a.length ≤ 16777216 ∧ Q (.str (Txt.join a ys)) H) joinM := by
  intro as st H x v ds vs d st' Q R r1 r2 e P
  have fin : ∀ {s : List Nat} {ls : List (List Nat)} {p : Addr}, okS s = true → (∀ l ∈ ls, okS l = true) → (ls.map List.length).sum + ls.length * s.length ≤ 16000000 → d = .str (joinD s ls) → st' = st → (SqL K H p ((ls.map mkS).map V.str) ∨ SqT K H p ((ls.map mkS).map V.str)) →
      ∃ a p', ∃ ys : List Str, V.str (mkS s) = .str a ∧ [V.ref p] = [.ref p'] ∧ (SqL K H p' (ys.map V.str) ∨ SqT K H p' (ys.map V.str)) ∧ (ys.map (·.length)).sum + ys.length * a.length ≤ 16777216 ∧ Q (.str (Txt.join a ys)) H := by
    intro s ls p h1 h2 h3 e1 e2 h4
    subst e1 e2
    refine ⟨mkS s, p, ls.map mkS, rfl, rfl, h4, ?_, ?_⟩
    · rw [List.map_map, List.length_map, mkS_len]
      have e : ((fun x : Str => x.length) ∘ mkS) = List.length := by
        funext l
        exact mkS_len l
      rw [e]
      omega
    · rw [join_to]
      exact P.now R (.str (okS_of fun c hc => by
        rcases mem_joinL s ls c hc with h | ⟨l, hl, hc⟩
        · exact okS_mem h1 c h
        · exact okS_mem (h2 l hl) c hc))
  cases r1 with
  | @str s hs =>
    cases r2 with
    | nil => cases e
    | cons r3 t =>
      cases t with
      | cons _ _ => cases r3 <;> cases e
      | nil =>
        cases r3 with
        | @ref n a ha =>
          obtain ⟨ls, e1, e2⟩ := bind_some e
          obtain ⟨xs, e3, e4⟩ := bind_some e1
          split at e2
          · rename_i hz
            cases e2
            obtain ⟨ws, q, rs⟩ := R.rdL e3 ha
            obtain ⟨h1, h2⟩ := strsO_to rs e4
            rw [h1] at q
            exact fin hs h2 hz rfl rfl (.inl q)
          · cases e2
        | @tup a ws xs q rs =>
          obtain ⟨ls, e1, e2⟩ := bind_some e
          split at e2
          · rename_i hz
            cases e2
            obtain ⟨h1, h2⟩ := strsO_to rs e1
            rw [h1] at q
            exact fin hs h2 hz rfl rfl (.inr q)
          · cases e2
        | _ => cases e
  | _ => cases e
theorem ie_join {cpos : Pos} (ha : IE X cad a f) (hes : IA X cad (e :: es) g) (hbase : attributeBase a "join" X.env (eval a X.env) = eval a X.env := by rfl)
    (hfew : ((backTo cpos (starEach (e :: es) X.env)).all (fun x => !x.1) && (backToKw cpos (keywordEach [] X.env)).all (fun x => x.1.isSome)
      && decide ((e :: es).length + ([] : List Keyword).length + (if ([] : List Keyword).isEmpty then 0 else 1) < 30)) = true := by rfl)
    (hline : (apos.endLine == cpos.line) = true := by rfl) (hs : starEach (e :: es) X.env = (false, eval e X.env) :: starEach es X.env := by rfl) (hplain : (backTo cpos (starEach es X.env)).any (·.1) = false := by rfl) :
    IE X cad (.Call (.Attribute a "join" apos) (e :: es) [] cpos) (eBM isS joinM f g) :=
  ie_bm (fun _ _ _ _ _ _ r e => isS_ty r e) md_join PySem.F.plainAttrs_str PySem.F.slot_str_join PySem.F.type_str_join mt_join ha hes hbase hfew hline hs hplain
end
end MP

set_option maxRecDepth 100000
/-! MP 7: statements, loops, bodies of defs. -/
namespace MP
open PySem PySem.Spec PyProof.Rows L2

/-- how a statement ends -/
inductive Fl where
  | nx
  | rt (d : D)
  | bk
  | ct
abbrev MS := Rho → Sto → Option (Fl × Rho × Sto)
def FlP (K : PySem.W.Frag) (as : List Addr) (H : Hp) (Dn : Ends) (σ : L2.St) : Fl → Prop
  | .nx => Dn.nx σ H
  | .rt d => ∀ v, VR K as H d v → Dn.rt v H
  | .bk => Dn.bk σ H
  | .ct => Dn.ct σ H
def PostS (K : PySem.W.Frag) (cad : Cad) (as : List Addr) (H : Hp) (fl : Fl) (ρ' : Rho) (st' : Sto) (Dn : Ends) : Prop :=
  ∀ (as' : List Addr) (H' : Hp) (σ' : L2.St), Ext K as H as' H' → Rel K cad as' st' H' → ER K as' H' ρ' σ' → FlP K as' H' Dn σ' fl
def tIS (K : PySem.W.Frag) (cad : Cad) (f : MS) : TS := fun Dn σ H => ∃ as st ρ fl ρ' st', Rel K cad as st H ∧ ER K as H ρ σ ∧ f ρ st = some (fl, ρ', st') ∧ PostS K cad as H fl ρ' st' Dn
def ISt (X : Cx) (cad : Cad) (s : Stmt) (f : MS) : Prop := PS X s (tIS X.K cad f)
def ISs (X : Cx) (cad : Cad) (ss : List Stmt) (f : MS) : Prop := PSs X ss (tIS X.K cad f)
theorem PostS.ext {K : PySem.W.Frag} {cad : Cad} {as as1 : List Addr} {H H1 : Hp} {fl : Fl} {ρ' : Rho} {st' : Sto} {Dn : Ends} (P : PostS K cad as H fl ρ' st' Dn) (x : Ext K as H as1 H1) : PostS K cad as1 H1 fl ρ' st' Dn := fun as' H' σ' y R E => P as' H' σ' (x.trans y) R E
theorem ps_weak {X : Cx} {s : Stmt} {t t' : TS} (h : PS X s t) (w : ∀ D σ H, t' D σ H → t D σ H) : PS X s t' := ⟨fun pins s σ H D I q => h.run pins s σ H D I (w D σ H q)⟩
theorem pss_weak {X : Cx} {s : List Stmt} {t t' : TS} (h : PSs X s t) (w : ∀ D σ H, t' D σ H → t D σ H) : PSs X s t' := ⟨fun pins s σ H D I q => h.run pins s σ H D I (w D σ H q)⟩
section
variable {X : Cx} {cad : Cad} {e a b c : Expr} {f h : ME} {t : MT} {g : MA} {u v : MS} {pos p : Pos} {s : Stmt} {ss rest : List Stmt}
theorem tIS_run {K : PySem.W.Frag} {as : List Addr} {st st' : Sto} {H : Hp} {ρ ρ' : Rho} {σ : L2.St} {fl : Fl} {Dn : Ends} (R : Rel K cad as st H) (E : ER K as H ρ σ) (e : u ρ st = some (fl, ρ', st'))
    (P : ∀ as' H' σ', Ext K as H as' H' → Rel K cad as' st' H' → ER K as' H' ρ' σ' → FlP K as' H' Dn σ' fl) : tIS K cad u Dn σ H := ⟨as, st, ρ, fl, ρ', st', R, E, e, P⟩
def sNext : MS := fun ρ st => some (.nx, ρ, st)
def sBreak : MS := fun ρ st => some (.bk, ρ, st)
def sCont : MS := fun ρ st => some (.ct, ρ, st)
def sSeq (u v : MS) : MS := fun ρ st => (u ρ st).bind fun q => match q.1 with
  | .nx => v q.2.1 q.2.2
  | _ => some q
theorem iss_nil : ISs X cad [] sNext := by
  refine pss_weak pss_nil fun Dn σ H => ?_
  rintro ⟨as, st, ρ, fl, ρ', st', R, E, q, P⟩
  cases q
  exact P as H σ .refl R E
theorem iss_one (h1 : ISt X cad s u) : ISs X cad [s] u := pss_one h1
theorem iss_cons (h1 : ISt X cad s u) (h2 : ISs X cad rest v) : ISs X cad (s :: rest) (sSeq u v) := by
  refine pss_weak (pss_cons h1 h2) fun Dn σ H => ?_
  rintro ⟨as, st, ρ, fl, ρ', st', R, E, q, P⟩
  obtain ⟨⟨fl1, ρ1, st1⟩, e1, q⟩ := bind_some q
  refine tIS_run R E e1 fun as1 H1 σ1 x1 R1 E1 => ?_
  cases fl1 with
  | nx => exact tIS_run R1 E1 q fun as2 H2 σ2 x2 R2 E2 => P as2 H2 σ2 (x1.trans x2) R2 E2
  | rt d => cases q; exact P as1 H1 σ1 x1 R1 E1
  | bk => cases q; exact P as1 H1 σ1 x1 R1 E1
  | ct => cases q; exact P as1 H1 σ1 x1 R1 E1
theorem is_pass : ISt X cad (.Pass pos) sNext := by
  refine ps_weak ps_pass fun Dn σ H => ?_
  rintro ⟨as, st, ρ, fl, ρ', st', R, E, q, P⟩
  cases q
  exact P as H σ .refl R E
theorem is_break : ISt X cad (.Break pos) sBreak := by
  refine ps_weak ps_break fun Dn σ H => ?_
  rintro ⟨as, st, ρ, fl, ρ', st', R, E, q, P⟩
  cases q
  exact P as H σ .refl R E
theorem is_cont : ISt X cad (.Continue pos) sCont := by
  refine ps_weak ps_continue fun Dn σ H => ?_
  rintro ⟨as, st, ρ, fl, ρ', st', R, E, q, P⟩
  cases q
  exact P as H σ .refl R E
theorem is_doc {x j p} : ISt X cad (.Expr (.Constant (.str x) j p) pos) sNext := by
  refine ps_weak ps_doc fun Dn σ H => ?_
  rintro ⟨as, st, ρ, fl, ρ', st', R, E, q, P⟩
  cases q
  exact P as H σ .refl R E
def sExpr (f : ME) : MS := fun ρ st => (f ρ st).map fun p => (.nx, ρ, p.2)
theorem is_expr (ha : IE X cad e f) (hs : swapsWith e none pos.line X.env = pure false := by rfl) : ISt X cad (.Expr e pos) (sExpr f) := by
  refine ps_weak (ps_expr ha hs) fun Dn σ H => ?_
  rintro ⟨as, st, ρ, fl, ρ', st', R, E, q, P⟩
  obtain ⟨⟨x, st1⟩, e1, e2⟩ := map_some q
  cases e2
  exact tI_run R E e1 fun as1 H1 v x1 R1 E1 r1 => P as1 H1 σ x1 R1 E1
def sRet (f : ME) : MS := fun ρ st => (f ρ st).map fun p => (.rt p.1, ρ, p.2)
theorem is_ret (ha : IE X cad e f) : ISt X cad (.Return (some e) pos) (sRet f) := by
  refine ps_weak (ps_ret ha) fun Dn σ H => ?_
  rintro ⟨as, st, ρ, fl, ρ', st', R, E, q, P⟩
  obtain ⟨⟨x, st1⟩, e1, e2⟩ := map_some q
  cases e2
  exact tI_run R E e1 fun as1 H1 v x1 R1 E1 r1 => P as1 H1 σ x1 R1 E1 v r1
def sRetN : MS := fun ρ st => some (.rt .non, ρ, st)
theorem is_retN : ISt X cad (.Return none pos) sRetN := by
  refine ps_weak ps_retN fun Dn σ H => ?_
  rintro ⟨as, st, ρ, fl, ρ', st', R, E, q, P⟩
  cases q
  exact P as H σ .refl R E .non .non
def sIf (t : MT) (u v : MS) : MS := fun ρ st => (t ρ st).bind fun p => if p.1 = true then u ρ p.2 else v ρ p.2
theorem is_if {x y : List Stmt} (hc : IT X cad c t) (ha : ISs X cad x u) (hb : ISs X cad y v) : ISt X cad (.If c x y pos) (sIf t u v) := by
  refine ps_weak (ps_if hc ha hb) fun Dn σ H => ?_
  rintro ⟨as, st, ρ, fl, ρ', st', R, E, q, P⟩
  obtain ⟨⟨k, st1⟩, e1, q⟩ := bind_some q
  refine tIT_run R E e1 fun as1 H1 x1 R1 E1 => ?_
  cases k with
  | true => exact iteT (tIS_run R1 E1 q fun as2 H2 σ2 x2 R2 E2 => P as2 H2 σ2 (x1.trans x2) R2 E2)
  | false => exact iteF (tIS_run R1 E1 q fun as2 H2 σ2 x2 R2 E2 => P as2 H2 σ2 (x1.trans x2) R2 E2)
/-! ### names bound -/
def sSet (i : Nat) (f : ME) : MS := fun ρ st => (f ρ st).map fun p => (.nx, ρ.set i (some p.1), p.2)
theorem sSet_to {K : PySem.W.Frag} {i : Nat} {Dn : Ends} {σ : L2.St} {H : Hp} (hw : tIS K cad (sSet i f) Dn σ H) : tAsg (tI K cad f) (gName i) Dn σ H := by
  obtain ⟨as, st, ρ, fl, ρ', st', R, E, q, P⟩ := hw
  obtain ⟨⟨x, st1⟩, e1, e2⟩ := map_some q
  cases e2
  exact tI_run R E e1 fun as1 H1 v x1 R1 E1 r1 => P as1 H1 _ x1 R1 (E1.set r1)
theorem is_set {i : Nat} {x : Str} {p : Pos} (hN : X.N.Nodup) (hi : X.N[i]? = some x) (hx : Loc X.env.scope x) (ha : IE X cad e f) (hs : swapsWith e (some (.Name x p)) pos.line X.env = pure false := by rfl)
    (hf : X.fn x = true ∨ X.env.scope.names.lookup x = some .local := by first | exact .inl rfl | exact .inr rfl | assumption) : ISt X cad (.Assign [.Name x p] e pos) (sSet i f) :=
  ps_weak (ps_set hN hi hx ha hs hf) fun _ _ _ hw => sSet_to hw
/-- a, b = x, y -/
def sPar2 (i j : Nat) (g : MA) : MS := fun ρ st => (g ρ st).bind fun p => match p.1 with
  | [x, y] => some (.nx, (ρ.set i (some x)).set j (some y), p.2)
  | _ => none
theorem is_par2 {i j : Nat} {x y : Str} {px py pt : Pos} {kt k2 : Nat} {pt2 : Pos} (hc : X.calm = true) (hN : X.N.Nodup) (hi : X.N[i]? = some x) (hj : X.N[j]? = some y) (hij : i ≠ j)
    (hx : X.env.scope.names.lookup x = some .local) (hy : X.env.scope.names.lookup y = some .local) (ha : IA X cad [a, b] g)
    (hw : swappedStores [.Tuple [.Name x px, .Name y py] kt pt] (.Tuple [a, b] k2 pt2) X.env = pure (some [x, y]))
    (hs : swapsWithSole [.Tuple [.Name x px, .Name y py] kt pt] (.Tuple [a, b] k2 pt2) pos.line X.env = pure false := by rfl) :
    ISt X cad (.Assign [.Tuple [.Name x px, .Name y py] kt pt] (.Tuple [a, b] k2 pt2) pos) (sPar2 i j g) := by
  refine ps_weak (ps_par hc hN hi hj hij hx hy ha hw hs) fun Dn σ H => ?_
  rintro ⟨as, st, ρ, fl, ρ', st', R, E, q, P⟩
  obtain ⟨⟨ys, st1⟩, e1, q⟩ := bind_some q
  refine tIA_run R E e1 fun as1 H1 vs x1 R1 E1 r1 => ?_
  match ys, r1, q with
  | [_, _], .cons (v := v1) q1 (.cons (v := v2) q2 .nil), q =>
    cases q
    exact ⟨v1, v2, rfl, P as1 H1 _ x1 R1 ((E1.set q1).set q2)⟩
def sPar3 (i j k : Nat) (g : MA) : MS := fun ρ st => (g ρ st).bind fun p => match p.1 with
  | [x, y, z] => some (.nx, ((ρ.set i (some x)).set j (some y)).set k (some z), p.2)
  | _ => none
theorem is_par3 {i j l : Nat} {d' : Expr} {x y z : Str} {px py pz pt : Pos} {kt k2 : Nat} {pt2 : Pos} (hc : X.calm = true) (hN : X.N.Nodup) (hi : X.N[i]? = some x) (hj : X.N[j]? = some y) (hl : X.N[l]? = some z) (hij : i ≠ j) (hil : i ≠ l) (hjl : j ≠ l)
    (hx : X.env.scope.names.lookup x = some .local) (hy : X.env.scope.names.lookup y = some .local) (hz : X.env.scope.names.lookup z = some .local) (ha : IA X cad [a, b, d'] g)
    (hw : swappedStores [.Tuple [.Name x px, .Name y py, .Name z pz] kt pt] (.Tuple [a, b, d'] k2 pt2) X.env = pure (some [x, y, z]))
    (hs : swapsWithSole [.Tuple [.Name x px, .Name y py, .Name z pz] kt pt] (.Tuple [a, b, d'] k2 pt2) pos.line X.env = pure false := by rfl) :
    ISt X cad (.Assign [.Tuple [.Name x px, .Name y py, .Name z pz] kt pt] (.Tuple [a, b, d'] k2 pt2) pos) (sPar3 i j l g) := by
  refine ps_weak (ps_par3 hc hN hi hj hl hij hil hjl hx hy hz ha hw hs) fun Dn σ H => ?_
  rintro ⟨as, st, ρ, fl, ρ', st', R, E, q, P⟩
  obtain ⟨⟨ys, st1⟩, e1, q⟩ := bind_some q
  refine tIA_run R E e1 fun as1 H1 vs x1 R1 E1 r1 => ?_
  match ys, r1, q with
  | [_, _, _], .cons (v := v1) q1 (.cons (v := v2) q2 (.cons (v := v3) q3 .nil)), q =>
    cases q
    exact ⟨v1, v2, v3, rfl, P as1 H1 _ x1 R1 (((E1.set q1).set q2).set q3)⟩
/-! targets -/
abbrev MG := D → Rho → Option Rho
def IG (X : Cx) (cad : Cad) (tg : Expr) (g : TG) (m : MG) : Prop := PG X tg g ∧ ∀ (as : List Addr) (H : Hp) (d : D) (v : V) (ρ ρ' : Rho) (σ : L2.St) (Q : L2.St → Hp → Prop), VR X.K as H d v → ER X.K as H ρ σ → m d ρ = some ρ' → (∀ σ', ER X.K as H ρ' σ' → Q σ' H) → g v σ H Q
def mName (i : Nat) : MG := fun d ρ => some (ρ.set i (some d))
theorem ig_name {i : Nat} {x : Str} (hN : X.N.Nodup) (hi : X.N[i]? = some x) (hx : Loc X.env.scope x) (hf : X.fn x = true ∨ X.env.scope.names.lookup x = some .local := by first | exact .inl rfl | exact .inr rfl | assumption) : IG X cad (.Name x pos) (gName i) (mName i) := by
  refine ⟨pg_name hN hi hx hf, fun as H d v ρ ρ' σ Q r E e P => ?_⟩
  cases e
  exact P _ (E.set r)
/-- the names of a tuple -/
def IGs (X : Cx) (cad : Cad) (tgs : List Expr) (g : TGs) (m : List D → Rho → Option Rho) : Prop := PGs X tgs g ∧ ∀ (as : List Addr) (H : Hp) (ds : List D) (vs : List V) (ρ ρ' : Rho) (σ : L2.St) (Q : L2.St → Hp → Prop), VRs X.K as H ds vs → ER X.K as H ρ σ → m ds ρ = some ρ' → (∀ σ', ER X.K as H ρ' σ' → Q σ' H) → g vs σ H Q
def mNil : List D → Rho → Option Rho := fun ds ρ => match ds with
  | [] => some ρ
  | _ => none
def mCons (m : MG) (n : List D → Rho → Option Rho) : List D → Rho → Option Rho := fun ds ρ => match ds with
  | d :: r => (m d ρ).bind fun ρ1 => n r ρ1
  | [] => none
theorem igs_nil : IGs X cad [] gNil mNil := by
  refine ⟨pgs_nil, fun as H ds vs ρ ρ' σ Q r E e P => ?_⟩
  cases r with
  | nil =>
    cases e
    exact ⟨rfl, P σ E⟩
  | cons _ _ => cases e
def mTup (n : Nat) (m : List D → Rho → Option Rho) : MG := fun d ρ => match d with
  | .tup ds => if ds.length = n then m ds ρ else none
  | _ => none
def sAsg (f : ME) (m : MG) : MS := fun ρ st => (f ρ st).bind fun p => (m p.1 ρ).map fun ρ' => (.nx, ρ', p.2)
theorem sAsg_to {tg : TG} {m : MG} {K : PySem.W.Frag} (hg : ∀ (as : List Addr) (H : Hp) (d : D) (v : V) (ρ ρ' : Rho) (σ : L2.St) (Q : L2.St → Hp → Prop), VR K as H d v → ER K as H ρ σ → m d ρ = some ρ' → (∀ σ', ER K as H ρ' σ' → Q σ' H) → tg v σ H Q)
    {Dn : Ends} {σ : L2.St} {H : Hp} (hw : tIS K cad (sAsg f m) Dn σ H) : tAsg (tI K cad f) tg Dn σ H := by
  obtain ⟨as, st, ρ, fl, ρ', st', R, E, q, P⟩ := hw
  obtain ⟨⟨x, st1⟩, e1, q⟩ := bind_some q
  obtain ⟨ρ1, e2, e3⟩ := map_some q
  cases e3
  exact tI_run R E e1 fun as1 H1 v x1 R1 E1 r1 => hg as1 H1 x v ρ ρ' σ _ r1 E1 e2 fun σ' E' => P as1 H1 σ' x1 R1 E'
theorem igs_cons {tg : Expr} {tgs : List Expr} {g1 : TG} {g2 : TGs} {m : MG} {n : List D → Rho → Option Rho} (h1 : IG X cad tg g1 m) (h2 : IGs X cad tgs g2 n)
    (hs : (assignEach (tg :: tgs) X.env).map (·.2) = assign tg X.env :: (assignEach tgs X.env).map (·.2) := by rfl) : IGs X cad (tg :: tgs) (gCons g1 g2) (mCons m n) := by
  refine ⟨pgs_cons h1.1 h2.1 hs, fun as H ds vs ρ ρ' σ Q r E e P => ?_⟩
  cases r with
  | nil => cases e
  | @cons d ds v vs r t =>
    obtain ⟨ρ1, e1, e2⟩ := bind_some e
    exact ⟨v, vs, rfl, h1.2 as H d v ρ ρ1 σ _ r E e1 fun σ1 E1 => h2.2 as H ds vs ρ1 ρ' σ1 Q t E1 e2 P⟩
theorem ig_tup {tgs : List Expr} {k n : Nat} {g2 : TGs} {m : List D → Rho → Option Rho} (hc : X.calm = true) (h : IGs X cad tgs g2 m) (hn : (assignEach tgs X.env).length = n := by rfl) (hst : (assignEach tgs X.env).findIdx? (·.1) = none := by rfl) :
    IG X cad (.Tuple tgs k pos) (gTup X.K n g2) (mTup n m) := by
  refine ⟨pg_tup hc h.1 hn hst, fun as H d v ρ ρ' σ Q r E e P => ?_⟩
  cases r with
  | @tup a xs ds hs rs =>
    simp only [mTup] at e
    split at e
    · rename_i hl
      exact ⟨a, xs, rfl, hs, by rw [← rs.length]; exact hl, h.2 as H ds xs ρ ρ' σ Q rs E e P⟩
    · cases e
  | _ => cases e
theorem is_asg {tg : Expr} {g1 : TG} {m : MG} (ha : IE X cad e f) (hg : IG X cad tg g1 m) (hs : swapsWithSole [tg] e pos.line X.env = pure false := by rfl) (hw : swappedStores [tg] e X.env = pure none := by rfl)
    (h1 : (assignEach [tg] X.env).map (·.2) = [assign tg X.env] := by rfl) : ISt X cad (.Assign [tg] e pos) (sAsg f m) :=
  ps_weak (ps_asg ha hg.1 hs hw h1) fun _ _ _ hw => sAsg_to hg.2 hw

/-! ### o[i] = e -/
def putD (kvs : List (Key × D)) (k : Key) (d : D) : List (Key × D) := if (kvs.any fun kv => decide (kv.1 = k)) = true then kvs.map fun kv => if kv.1 = k then (kv.1, d) else kv else kvs ++ [(k, d)]
theorem KVR.any {K : PySem.W.Frag} {as : List Addr} {H : Hp} {kvs : List (Key × D)} {xs : List (Key × V)} (r : KVR K as H kvs xs) (k : Key) : (kvs.any fun kv => decide (kv.1 = k)) = xs.any fun kv => decide (kv.1 = k) := by
  induction r with
  | nil => rfl
  | @cons p q ps qs h _ ih =>
    rw [List.any_cons, List.any_cons, ih, h.1]
theorem KVR.put {K : PySem.W.Frag} {as : List Addr} {H : Hp} {kvs : List (Key × D)} {xs : List (Key × V)} (r : KVR K as H kvs xs) (k : Key) {d : D} {v : V} (rv : VR K as H d v) : KVR K as H (putD kvs k d) (putK xs k v) := by
  unfold putD putK
  rw [r.any k]
  split
  · rename_i hc
    clear hc
    induction r with
    | nil => exact .nil
    | @cons p q ps qs h _ ih =>
      rw [List.map_cons, List.map_cons]
      refine .cons ?_ ih
      rw [h.1]
      by_cases e : q.1 = k
      · rw [if_pos e, if_pos e]
        exact ⟨rfl, rv⟩
      · rw [if_neg e, if_neg e]
        exact h
  · rename_i hc
    clear hc
    induction r with
    | nil => exact .cons ⟨rfl, rv⟩ .nil
    | @cons p q ps qs h _ ih => exact .cons h ih
/-- o[i] = d -/
def setO (x y d : D) (st : Sto) : Option Sto := match x with
  | .ref k => match myL st k with
    | some ds => match y with
      | .int i => (ixN ds.length i).map fun j => st.set k (.lst (ds.set j d))
      | _ => none
    | none => match myD st k, keyOf y with
      | some kvs, some key => if kvs.length < LIM then some (st.set k (.dic (putD kvs key d))) else none
      | _, _ => none
  | _ => none
def rSetD : V → V → V → Hp → (Hp → Prop) → Prop := fun o i v H Q => ∃ a H4, o = .ref a ∧ DPut H a i v H4 ∧ Q H4
theorem set_dict (hu : X.A.units + 64 < cLine) : PSet X rSetD := by
  intro pins s σ H o i v ov iv u Q I ro ri rv h
  obtain ⟨a, H4, rfl, g, q⟩ := h
  obtain rfl : ov = Value.ref a := ro
  exact d_setItem (by omega) I g ri rv fun s' I' => ⟨H4, I', q⟩
theorem PSet.or {t t' : TSet} (h : PSet X t) (h' : PSet X t') : PSet X (fun o i v H Q => t o i v H Q ∨ t' o i v H Q) := by
  intro pins s σ H o i v ov iv u Q I ro ri rv q
  rcases q with q | q
  · exact h pins s σ H o i v ov iv u Q I ro ri rv q
  · exact h' pins s σ H o i v ov iv u Q I ro ri rv q
theorem setO_to {K : PySem.W.Frag} {as : List Addr} {st st' : Sto} {H : Hp} {x y d : D} {vx vy vd : V} {Q : Hp → Prop} (R : Rel K cad as st H) (r1 : VR K as H x vx) (r2 : VR K as H y vy) (r3 : VR K as H d vd) (e : setO x y d st = some st')
    (P : ∀ H', Ext K as H as H' → Rel K cad as st' H' → Q H') : rSetL vx vy vd H Q ∨ rSetD vx vy vd H Q := by
  cases r1 with
  | @ref n a ha =>
    simp only [setO] at e
    split at e
    · rename_i ds e0
      cases r2 with
      | int i =>
        obtain ⟨j, e1, rfl⟩ := map_some e
        obtain ⟨xs, q, rs⟩ := R.myL e0 ha
        have e2 := myL_at e0
        obtain ⟨u, q0, q1, q2⟩ := (R.ob n _ a e2 ha).there rfl
        have x : Ext K as H as (upd H a (.lst (xs.set j vd))) := ⟨⟨[], by simp⟩, fun b ys h => sqT_write q0 q1 q2 h⟩
        obtain ⟨R', _⟩ := R.write (u := .lst (xs.set j vd)) (o' := .lst (ds.set j d)) e2 ha rfl rfl ⟨_, upd_same, (rs.set r3 j).mono x⟩
        exact .inl ⟨a, xs, i, j, rfl, rfl, q, by rw [← rs.length]; exact e1, P _ x R'⟩
      | _ => cases e
    · split at e
      · rename_i kvs key e3 e4
        split at e
        · rename_i hl
          cases e
          obtain ⟨xs, q, rs⟩ := R.myD e3 ha
          have e2 := myD_at e3
          obtain ⟨u, q0, q1, q2⟩ := (R.ob n _ a e2 ha).there rfl
          have x : Ext K as H as (upd H a (.dK (putK xs key vd))) := ⟨⟨[], by simp⟩, fun b ys h => sqT_write q0 q1 q2 h⟩
          obtain ⟨R', _⟩ := R.write (u := .dK (putK xs key vd)) (o' := .dic (putD kvs key d)) e2 ha rfl rfl ⟨_, upd_same, Paired.map2 (fun _ _ z => ⟨z.1, z.2.mono x⟩) (rs.put key r3)⟩
          refine .inr ⟨a, _, rfl, ?_, P _ x R'⟩
          rw [keyOf_is r2 e4]
          exact DPut.k q (by rw [← rs.length]; exact lim_lt hl)
        · cases e
      · cases e
  | _ => cases e
def sPut (fo fi f : ME) : MS := fun ρ st => (f ρ st).bind fun p => (fo ρ p.2).bind fun x => (fi ρ x.2).bind fun y => (setO x.1 y.1 p.1 y.2).map fun st' => (.nx, ρ, st')
theorem is_put {o i : Expr} {fo fi : ME} {p' : Pos} (hu : X.A.units + 64 < cLine) (ho : IE X cad o fo) (hi : IE X cad i fi) (ha : IE X cad e f)
    (hb : ∀ v, assign (.Subscript o i p') X.env v = (do
      let ov ← holding [v] (eval o X.env)
      let iv ← holding [v, ov] (eval i X.env)
      standAt p'
      holding [v, ov, iv] (setItem ov iv v)
      release [v, ov, iv] []) := by intro _; rfl)
    (hs : swapsWithSole [.Subscript o i p'] e pos.line X.env = pure false := by rfl) (hw : swappedStores [.Subscript o i p'] e X.env = pure none := by rfl)
    (h1 : (assignEach [.Subscript o i p'] X.env).map (·.2) = [assign (.Subscript o i p') X.env] := by rfl) :
    ISt X cad (.Assign [.Subscript o i p'] e pos) (sPut fo fi f) := by
  refine ps_weak (ps_asg ha (pg_sub ho hi (PSet.or set_list (set_dict hu)) hb) hs hw h1) fun Dn σ H => ?_
  rintro ⟨as, st, ρ, fl, ρ', st', R, E, q, P⟩
  obtain ⟨⟨d, st1⟩, e1, q⟩ := bind_some q
  obtain ⟨⟨x, st2⟩, e2, q⟩ := bind_some q
  obtain ⟨⟨y, st3⟩, e3, q⟩ := bind_some q
  obtain ⟨st4, e4, e5⟩ := map_some q
  cases e5
  exact tI_run R E e1 fun as1 H1 v x1 R1 E1 r1 => tI_run R1 E1 e2 fun as2 H2 w x2 R2 E2 r2 => tI_run R2 E2 e3 fun as3 H3 u x3 R3 E3 r3 =>
    setO_to R3 (r2.mono x3) r3 (r1.mono (x2.trans x3)) e4 fun H4 x4 R4 => P as3 H4 σ (x1.trans (x2.trans (x3.trans x4))) R4 (E3.mono x4)
end
end MP

set_option maxRecDepth 100000
/-! MP 8: for, while, comprehensions, bodies of defs. -/
namespace MP
open PySem PySem.Spec PyProof.Rows L2

/-! ### what is walked -/
/-- the items, and what must stay while they are walked -/
abbrev MI := Rho → Sto → Option ((List D × (Sto → Prop)) × Sto)
structure ItD (K : PySem.W.Frag) (cad : Cad) (as : List Addr) (H : Hp) (J : It) (ds : List D) (chk : Sto → Prop) : Prop where
  go : ∀ (as' : List Addr) (st : Sto) (H' : Hp) (i : Nat) (d : D), Ext K as H as' H' → Rel K cad as' st H' → chk st → ds[i]? = some d → J.go i H' ∧ ∀ x H2, J.yld i H' x H2 → Ext K as' H' as' H2 ∧ Rel K cad as' st H2 ∧ VR K as' H2 d x
  stop : ∀ (as' : List Addr) (st : Sto) (H' : Hp), Ext K as H as' H' → Rel K cad as' st H' → chk st → J.stop ds.length H'
def tII (K : PySem.W.Frag) (cad : Cad) (fi : MI) (σ : L2.St) (H : Hp) (R : It → Hp → Prop) : Prop :=
  ∃ as st ρ ds chk st', Rel K cad as st H ∧ ER K as H ρ σ ∧ fi ρ st = some ((ds, chk), st') ∧ ∀ as' H' J, Ext K as H as' H' → Rel K cad as' st' H' → ItD K cad as' H' J ds chk → R J H'
def II (X : Cx) (cad : Cad) (tg it : Expr) (wi : TI) (fi : MI) : Prop := PI X tg it wi ∧ ∀ σ H R, tII X.K cad fi σ H R → wi σ H R
theorem PI.or {X : Cx} {tg it : Expr} {w1 w2 : TI} (h1 : PI X tg it w1) (h2 : PI X tg it w2) : PI X tg it (fun σ H R => w1 σ H R ∨ w2 σ H R) := ⟨fun pins s σ H R I q => by
  rcases q with q | q
  · exact h1.run pins s σ H R I q
  · exact h2.run pins s σ H R I q⟩
section
variable {X : Cx} {cad : Cad} {tg e a b c : Expr} {f : ME} {g : MA} {t : MT} {u : MS} {pos p : Pos}
/-- any value: a list, a tuple, a text -/
def iV (f : ME) : MI := fun ρ st => (f ρ st).bind fun p => match p.1 with
  | .ref k => (rdL p.2 k).map fun ds => ((ds, fun s => rdL s k = some ds), p.2)
  | .tup ds => some ((ds, fun _ => True), p.2)
  | .str l => some ((l.map fun c => D.str [c], fun _ => True), p.2)
  | _ => none
def wiV (K : PySem.W.Frag) (te : TE) : TI := fun σ H R => iList K te σ H R ∨ iTup K te σ H R ∨ iStr te σ H R
theorem itd_list {K : PySem.W.Frag} {as : List Addr} {H : Hp} {k : Nat} {a : Addr} {ds : List D} (ha : as[k]? = some a) : ItD K cad as H (Itl K a) ds (fun s => rdL s k = some ds) where
  go := fun as' st H' i d x R hc hd => by
    obtain ⟨xs, hs, rs⟩ := R.rdL hc (x.at ha)
    obtain ⟨v, hv, rv⟩ := rs.get hd
    refine ⟨⟨xs, v, hs, hv⟩, fun y H2 hy => ?_⟩
    obtain ⟨rfl, hy⟩ := hy
    have e := (hy xs hs).symm.trans hv
    cases e
    exact ⟨.refl, R, rv⟩
  stop := fun as' st H' x R hc => by
    obtain ⟨xs, hs, rs⟩ := R.rdL hc (x.at ha)
    exact ⟨xs, hs, by rw [rs.length]; exact Nat.le_refl _⟩
theorem itd_tup {K : PySem.W.Frag} {as : List Addr} {H : Hp} {a : Addr} {xs : List V} {ds : List D} (hs : SqT K H a xs) (rs : VRs K as H ds xs) : ItD K cad as H (Itt K a) ds (fun _ => True) where
  go := fun as' st H' i d x R hc hd => by
    obtain ⟨v, hv, rv⟩ := rs.get hd
    refine ⟨⟨xs, v, x.tup _ _ hs, hv⟩, fun y H2 hy => ?_⟩
    obtain ⟨rfl, hy⟩ := hy
    have e := (hy xs (x.tup _ _ hs)).symm.trans hv
    cases e
    exact ⟨.refl, R, rv.mono x⟩
  stop := fun as' st H' x R hc => ⟨xs, x.tup _ _ hs, by rw [rs.length]; exact Nat.le_refl _⟩
theorem itd_str {K : PySem.W.Frag} {as : List Addr} {H : Hp} {l : List Nat} (hl : okS l = true) : ItD K cad as H (Its (mkS l)) (l.map fun c => D.str [c]) (fun _ => True) where
  go := fun as' st H' i d x R hc hd => by
    rw [List.getElem?_map] at hd
    obtain ⟨c, e1, rfl⟩ := map_some hd
    obtain ⟨h1, h2⟩ := List.getElem?_eq_some_iff.mp e1
    have hi : i < (mkS l).cps.size := by
      show i < l.toArray.size
      rw [List.size_toArray]
      exact h1
    refine ⟨hi, fun y H2 hy => ?_⟩
    obtain ⟨rfl, c', e2, rfl⟩ := hy
    have e3 : (mkS l).cps[i]? = some c := by
      show l.toArray[i]? = some c
      rw [List.getElem?_toArray]
      exact e1
    rw [e3] at e2
    cases e2
    refine ⟨.refl, R, VR.str (l := [c]) (okS_sub hl fun z hz => ?_)⟩
    have : z = c := by simpa using hz
    subst this
    exact List.mem_of_getElem? e1
  stop := fun as' st H' x R hc => by
    show (mkS l).cps.size ≤ _
    show l.toArray.size ≤ _
    rw [List.size_toArray, List.length_map]
    exact Nat.le_refl _
theorem ii_v (ha : IE X cad e f) : II X cad tg e (wiV X.K (tI X.K cad f)) (iV f) := by
  refine ⟨PI.or (pi_list ha) (PI.or (pi_tup ha) (pi_str ha)), fun σ H R => ?_⟩
  rintro ⟨as, st, ρ, ds, chk, st', Rl, E, q, P⟩
  obtain ⟨⟨x, st1⟩, e1, q⟩ := bind_some q
  have go : ∀ {Q : VK}, (∀ as' H' v, Ext X.K as H as' H' → Rel X.K cad as' st1 H' → ER X.K as' H' ρ σ → VR X.K as' H' x v → Q v H') → tI X.K cad f σ H Q := fun h => tI_run Rl E e1 h
  cases x with
  | ref k =>
    obtain ⟨es, e2, e3⟩ := map_some q
    cases e3
    refine .inl (go fun as1 H1 v x1 R1 E1 r1 => ?_)
    cases r1 with
    | @ref n a ha =>
      obtain ⟨xs, hs, rs⟩ := R1.rdL e2 ha
      exact ⟨a, rfl, ⟨xs, hs⟩, P as1 H1 _ x1 R1 (itd_list ha)⟩
  | tup es =>
    cases q
    refine .inr (.inl (go fun as1 H1 v x1 R1 E1 r1 => ?_))
    cases r1 with
    | @tup a xs _ hs rs => exact ⟨a, rfl, ⟨xs, hs⟩, P as1 H1 _ x1 R1 (itd_tup hs rs)⟩
  | str l =>
    cases q
    refine .inr (.inr (go fun as1 H1 v x1 R1 E1 r1 => ?_))
    cases r1 with
    | str hl => exact ⟨_, rfl, P as1 H1 _ x1 R1 (itd_str hl)⟩
  | _ => cases q
/-- range(..) -/
def rngD (lo : Int) (n : Nat) : List D := (List.range n).map fun i => .int (lo + (i : Nat))
theorem itd_rng {K : PySem.W.Frag} {as : List Addr} {H : Hp} {lo : Int} {n : Nat} : ItD K cad as H (Itr lo n) (rngD lo n) (fun _ => True) where
  go := fun as' st H' i d x R hc hd => by
    unfold rngD at hd
    rw [List.getElem?_map] at hd
    obtain ⟨c, e1, rfl⟩ := map_some hd
    obtain ⟨h1, h2⟩ := List.getElem?_eq_some_iff.mp e1
    rw [List.length_range] at h1
    rw [List.getElem_range] at h2
    subst h2
    refine ⟨h1, fun y H2 hy => ?_⟩
    obtain ⟨rfl, rfl⟩ := hy
    exact ⟨.refl, R, .int _⟩
  stop := fun as' st H' x R hc => by
    show n ≤ (rngD lo n).length
    unfold rngD
    rw [List.length_map, List.length_range]
    exact Nat.le_refl _
def iR1 (g : MA) : MI := fun ρ st => (g ρ st).bind fun p => match p.1 with
  | [.int n] => if -(LIM : Int) ≤ n ∧ n ≤ (LIM : Nat) then some ((rngD 0 n.toNat, fun _ => True), p.2) else none
  | _ => none
theorem ii_r1 (hg : Gl X "range") (hm : X.mg "range" = none) (ha : IA X cad [a] g) (hs : starEach [a] X.env = [(false, eval a X.env)] := by rfl) : II X cad tg (.Call (.Name "range" p) [a] [] pos) (iRng1 (tIA X.K cad g)) (iR1 g) := by
  refine ⟨pi_range1 hg hm ha hs, fun σ H R => ?_⟩
  rintro ⟨as, st, ρ, ds, chk, st', Rl, E, q, P⟩
  obtain ⟨⟨x, st1⟩, e1, q⟩ := bind_some q
  refine tIA_run Rl E e1 fun as1 H1 vs x1 R1 E1 r1 => ?_
  cases r1 with
  | nil => cases q
  | cons r2 t =>
    cases t with
    | cons _ _ => cases r2 <;> cases q
    | nil =>
      cases r2 with
      | int n =>
        simp only at q
        split at q
        · rename_i h
          cases q
          have hL : LIM = 16000000 := rfl
          rw [hL] at h
          exact ⟨n, rfl, by omega, by omega, P as1 H1 _ x1 R1 itd_rng⟩
        · cases q
      | _ => cases q
def iR2 (g : MA) : MI := fun ρ st => (g ρ st).bind fun p => match p.1 with
  | [.int i, .int j] => if -(LIM : Int) ≤ i ∧ i ≤ (LIM : Nat) ∧ -(LIM : Int) ≤ j ∧ j ≤ (LIM : Nat) then some ((rngD i (j - i).toNat, fun _ => True), p.2) else none
  | _ => none
theorem ii_r2 (hg : Gl X "range") (hm : X.mg "range" = none) (ha : IA X cad [a, b] g) (hs : starEach [a, b] X.env = [(false, eval a X.env), (false, eval b X.env)] := by rfl) (hs2 : starEach [b] X.env = [(false, eval b X.env)] := by rfl) :
    II X cad tg (.Call (.Name "range" p) [a, b] [] pos) (iRng2 (tIA X.K cad g)) (iR2 g) := by
  refine ⟨pi_range2 hg hm ha hs hs2, fun σ H R => ?_⟩
  rintro ⟨as, st, ρ, ds, chk, st', Rl, E, q, P⟩
  obtain ⟨⟨x, st1⟩, e1, q⟩ := bind_some q
  refine tIA_run Rl E e1 fun as1 H1 vs x1 R1 E1 r1 => ?_
  cases r1 with
  | nil => cases q
  | cons r2 t =>
    cases t with
    | nil => cases r2 <;> cases q
    | cons r3 t =>
      cases t with
      | cons _ _ => cases r2 <;> cases r3 <;> cases q
      | nil =>
        cases r2 with
        | int i =>
          cases r3 with
          | int j =>
            simp only at q
            split at q
            · rename_i h
              cases q
              have hL : LIM = 16000000 := rfl
              rw [hL] at h
              exact ⟨i, j, rfl, ⟨by omega, by omega, by omega, by omega⟩, P as1 H1 _ x1 R1 itd_rng⟩
            · cases q
          | _ => cases q
        | _ => cases r3 <;> cases q
/-- enumerate(a list) -/
def enumD (ds : List D) : List D := (List.range ds.length).map fun i => .tup [.int (i : Nat), ds.getD i .non]
theorem itd_enum {K : PySem.W.Frag} {as : List Addr} {H : Hp} {k : Nat} {a : Addr} {ds : List D} (ha : as[k]? = some a) : ItD K cad as H (Ite K a) (enumD ds) (fun s => rdL s k = some ds) where
  go := fun as' st H' i d x R hc hd => by
    unfold enumD at hd
    rw [List.getElem?_map] at hd
    obtain ⟨c, e1, rfl⟩ := map_some hd
    obtain ⟨h1, h2⟩ := List.getElem?_eq_some_iff.mp e1
    rw [List.length_range] at h1
    rw [List.getElem_range] at h2
    subst h2
    obtain ⟨xs, hs, rs⟩ := R.rdL hc (x.at ha)
    have e3 : ds[i]? = some (ds.getD i .non) := by
      rw [List.getD_eq_getElem?_getD, List.getElem?_eq_getElem h1]
      rfl
    obtain ⟨v, hv, rv⟩ := rs.get e3
    refine ⟨⟨xs, v, hs, hv⟩, fun y H2 hy => ?_⟩
    obtain ⟨T, z, rfl, hT, rfl, hz⟩ := hy
    have e4 := (hz xs hs).symm.trans hv
    cases e4
    exact ⟨Ext.fresh hT, R.fresh hT, .tup (.inl (.inl upd_same)) (.cons (.int _) (.cons (rv.mono (Ext.fresh hT)) .nil))⟩
  stop := fun as' st H' x R hc => by
    obtain ⟨xs, hs, rs⟩ := R.rdL hc (x.at ha)
    refine ⟨xs, hs, ?_⟩
    unfold enumD
    rw [List.length_map, List.length_range, rs.length]
    exact Nat.le_refl _
def iEn (g : MA) : MI := fun ρ st => (g ρ st).bind fun p => match p.1 with
  | [.ref k] => (rdL p.2 k).map fun ds => ((enumD ds, fun s => rdL s k = some ds), p.2)
  | _ => none
theorem ii_enum {elts : List Expr} {kk : Nat} {tpos : Pos} (hg : Gl X "enumerate") (hm : X.mg "enumerate" = none) (ha : IA X cad [a] g) (hs : starEach [a] X.env = [(false, eval a X.env)] := by rfl) :
    II X cad (.Tuple elts kk tpos) (.Call (.Name "enumerate" p) [a] [] pos) (iEnum X.K (tIA X.K cad g)) (iEn g) := by
  refine ⟨pi_enum hg hm ha hs, fun σ H R => ?_⟩
  rintro ⟨as, st, ρ, ds, chk, st', Rl, E, q, P⟩
  obtain ⟨⟨x, st1⟩, e1, q⟩ := bind_some q
  refine tIA_run Rl E e1 fun as1 H1 vs x1 R1 E1 r1 => ?_
  cases r1 with
  | nil => cases q
  | cons r2 t =>
    cases t with
    | cons _ _ => cases r2 <;> cases q
    | nil =>
      cases r2 with
      | @ref n a ha =>
        obtain ⟨es, e2, e3⟩ := map_some q
        cases e3
        obtain ⟨xs, hs, rs⟩ := R1.rdL e2 ha
        exact ⟨a, xs, rfl, hs, P as1 H1 _ x1 R1 (itd_enum ha)⟩
      | _ => cases q
/-- zip of two lists -/
def zipD (ds es : List D) : List D := (ds.zip es).map fun p => .tup [p.1, p.2]
theorem itd_zip {K : PySem.W.Frag} {as : List Addr} {H : Hp} {k n : Nat} {a b : Addr} {ds es : List D} (ha : as[k]? = some a) (hb : as[n]? = some b) : ItD K cad as H (Itz K a b) (zipD ds es) (fun s => rdL s k = some ds ∧ rdL s n = some es) where
  go := fun as' st H' i d x R hc hd => by
    unfold zipD at hd
    rw [List.getElem?_map] at hd
    obtain ⟨c, e1, rfl⟩ := map_some hd
    obtain ⟨h1, h2⟩ := List.getElem?_zip_eq_some.mp e1
    obtain ⟨xs, hs, rs⟩ := R.rdL hc.1 (x.at ha)
    obtain ⟨ys, hs2, rs2⟩ := R.rdL hc.2 (x.at hb)
    obtain ⟨v, hv, rv⟩ := rs.get h1
    obtain ⟨w, hw, rw'⟩ := rs2.get h2
    refine ⟨⟨xs, ys, v, w, hs, hs2, hv, hw⟩, fun y H2 hy => ?_⟩
    obtain ⟨T, z1, z2, rfl, hT, rfl, hz, hz2⟩ := hy
    have e4 := (hz xs hs).symm.trans hv
    cases e4
    have e5 := (hz2 ys hs2).symm.trans hw
    cases e5
    exact ⟨Ext.fresh hT, R.fresh hT, .tup (.inl (.inl upd_same)) (.cons (rv.mono (Ext.fresh hT)) (.cons (rw'.mono (Ext.fresh hT)) .nil))⟩
  stop := fun as' st H' x R hc => by
    obtain ⟨xs, hs, rs⟩ := R.rdL hc.1 (x.at ha)
    obtain ⟨ys, hs2, rs2⟩ := R.rdL hc.2 (x.at hb)
    refine ⟨xs, ys, hs, hs2, ?_⟩
    unfold zipD
    rw [List.length_map, List.length_zip, ← rs.length, ← rs2.length]
    omega
def iZp (g : MA) : MI := fun ρ st => (g ρ st).bind fun p => match p.1 with
  | [.ref k, .ref n] => match rdL p.2 k, rdL p.2 n with
    | some ds, some es => some ((zipD ds es, fun s => rdL s k = some ds ∧ rdL s n = some es), p.2)
    | _, _ => none
  | _ => none
theorem ii_zip {elts : List Expr} {kk : Nat} {tpos : Pos} (hg : Gl X "zip") (hm : X.mg "zip" = none) (ha : IA X cad [a, b] g) (hs : starEach [a, b] X.env = (false, eval a X.env) :: starEach [b] X.env := by rfl) (hpl : (backTo pos (starEach [b] X.env)).any (·.1) = false := by rfl) :
    II X cad (.Tuple elts kk tpos) (.Call (.Name "zip" p) [a, b] [] pos) (iZip X.K (tIA X.K cad g)) (iZp g) := by
  refine ⟨pi_zip hg hm ha hs hpl, fun σ H R => ?_⟩
  rintro ⟨as, st, ρ, ds, chk, st', Rl, E, q, P⟩
  obtain ⟨⟨x, st1⟩, e1, q⟩ := bind_some q
  refine tIA_run Rl E e1 fun as1 H1 vs x1 R1 E1 r1 => ?_
  cases r1 with
  | nil => cases q
  | cons r2 t =>
    cases t with
    | nil => cases r2 <;> cases q
    | cons r3 t =>
      cases t with
      | cons _ _ => cases r2 <;> cases r3 <;> cases q
      | nil =>
        cases r2 with
        | @ref n a ha =>
          cases r3 with
          | @ref m b hb =>
            simp only at q
            split at q
            · rename_i ds' es' e2 e3
              cases q
              obtain ⟨xs, hs, rs⟩ := R1.rdL e2 ha
              obtain ⟨ys, hs2, rs2⟩ := R1.rdL e3 hb
              exact ⟨a, b, xs, ys, rfl, hs, hs2, P as1 H1 _ x1 R1 (itd_zip ha hb)⟩
            · cases q
          | _ => cases q
        | _ => cases r3 <;> cases q

/-! ### for -/
open Classical in
noncomputable def loopF (chk : Sto → Prop) (m : MG) (body : MS) : List D → MS
  | [] => fun ρ st => if chk st then some (.nx, ρ, st) else none
  | d :: r => fun ρ st => if chk st then (m d ρ).bind fun ρ1 => (body ρ1 st).bind fun q => match q.1 with
      | .nx => loopF chk m body r q.2.1 q.2.2
      | .ct => loopF chk m body r q.2.1 q.2.2
      | .bk => some (.nx, q.2.1, q.2.2)
      | .rt d => some (.rt d, q.2.1, q.2.2)
    else none
noncomputable def sFor (fi : MI) (m : MG) (body : MS) : MS := fun ρ st => (fi ρ st).bind fun p => loopF p.1.2 m body p.1.1 ρ p.2
theorem for_to {K : PySem.W.Frag} {wi : TI} {fi : MI} {g1 : TG} {m : MG} {u : MS} (hi : ∀ σ H R, tII K cad fi σ H R → wi σ H R)
    (hg : ∀ (as : List Addr) (H : Hp) (d : D) (v : V) (ρ ρ' : Rho) (σ : L2.St) (Q : L2.St → Hp → Prop), VR K as H d v → ER K as H ρ σ → m d ρ = some ρ' → (∀ σ', ER K as H ρ' σ' → Q σ' H) → g1 v σ H Q)
    {Dn : Ends} {σ : L2.St} {H : Hp} (hw : tIS K cad (sFor fi m u) Dn σ H) : tFor wi g1 (tIS K cad u) Dn σ H := by
  obtain ⟨as, st, ρ, fl, ρ', st', R, E, q, P⟩ := hw
  obtain ⟨⟨⟨ds, chk⟩, st1⟩, e1, q⟩ := bind_some q
  refine hi σ H _ ⟨as, st, ρ, ds, chk, st1, R, E, e1, fun as1 H1 J x1 R1 D1 => ?_⟩
  refine ⟨fun i n σ2 H2 => ∃ as2 ρ2 st2, n = ds.length - i ∧ i ≤ ds.length ∧ Ext K as1 H1 as2 H2 ∧ Rel K cad as2 st2 H2 ∧ ER K as2 H2 ρ2 σ2 ∧ loopF chk m u (ds.drop i) ρ2 st2 = some (fl, ρ', st'),
    ⟨ds.length, as1, ρ, st1, rfl, Nat.zero_le _, .refl, R1, E.mono x1, q⟩, ?_⟩
  rintro i n σ2 H2 ⟨as2, ρ2, st2, rfl, hi2, x2, R2, E2, q2⟩
  by_cases hlt : i < ds.length
  · rw [List.drop_eq_getElem_cons hlt] at q2
    simp only [loopF] at q2
    split at q2
    · rename_i hc
      obtain ⟨ρ3, e3, q2⟩ := bind_some q2
      obtain ⟨⟨fl4, ρ4, st4⟩, e4, q2⟩ := bind_some q2
      obtain ⟨g1', g2'⟩ := D1.go as2 st2 H2 i ds[i] x2 R2 hc (List.getElem?_eq_getElem hlt)
      refine .inr ⟨g1', fun σ5 H5 => ∃ as5 ρ5 st5, Ext K as1 H1 as5 H5 ∧ Rel K cad as5 st5 H5 ∧ ER K as5 H5 ρ5 σ5 ∧ loopF chk m u (ds.drop (i + 1)) ρ5 st5 = some (fl, ρ', st'), ?_, ?_⟩
      · rintro σ5 H5 ⟨as5, ρ5, st5, x5, R5, E5, q5⟩
        exact ⟨ds.length - (i + 1), by omega, as5, ρ5, st5, rfl, hlt, x5, R5, E5, q5⟩
      · intro x H3 hy
        obtain ⟨x3, R3, rv⟩ := g2' x H3 hy
        refine hg as2 H3 ds[i] x ρ2 ρ3 σ2 _ rv (E2.mono x3) e3 fun σ3 E3 => ?_
        refine tIS_run R3 E3 e4 fun as4 H4 σ4 x4 R4 E4 => ?_
        cases fl4 with
        | nx => exact ⟨as4, ρ4, st4, x2.trans (x3.trans x4), R4, E4, q2⟩
        | ct => exact ⟨as4, ρ4, st4, x2.trans (x3.trans x4), R4, E4, q2⟩
        | bk =>
          cases q2
          exact P as4 H4 σ4 (x1.trans (x2.trans (x3.trans x4))) R4 E4
        | rt d =>
          cases q2
          exact P as4 H4 σ4 (x1.trans (x2.trans (x3.trans x4))) R4 E4
    · cases q2
  · have e : i = ds.length := by omega
    subst e
    rw [List.drop_length] at q2
    simp only [loopF] at q2
    split at q2
    · rename_i hc
      cases q2
      exact .inl ⟨D1.stop as2 _ H2 x2 R2 hc, P as2 H2 σ2 (x1.trans x2) R2 E2⟩
    · cases q2
theorem is_for {wi : TI} {fi : MI} {g1 : TG} {m : MG} {body : List Stmt} (hp : PassesOwn (model X.prog X.w) X.A X.env X.xe) (hc : X.calm = true) (hi : II X cad tg e wi fi) (hg : IG X cad tg g1 m) (hb : ISs X cad body u)
    (hs : ∀ x, foldedSetIterable e X.env x = pure x := by intro _; rfl) : ISt X cad (.For tg e body [] pos) (sFor fi m u) :=
  ps_weak (ps_for hp hc hi.1 hg.1 hb hs) fun _ _ _ hw => for_to hi.2 hg.2 hw

/-! ### while -/
def loopW (t : MT) (u : MS) : Nat → MS
  | 0 => fun _ _ => none
  | n + 1 => fun ρ st => (t ρ st).bind fun p => if p.1 = true then (u ρ p.2).bind fun q => match q.1 with
      | .nx => loopW t u n q.2.1 q.2.2
      | .ct => loopW t u n q.2.1 q.2.2
      | .bk => some (.nx, q.2.1, q.2.2)
      | .rt d => some (.rt d, q.2.1, q.2.2)
    else some (.nx, ρ, p.2)
theorem loopW_more {t : MT} {u : MS} : ∀ {n : Nat} {ρ : Rho} {st : Sto} {r : Fl × Rho × Sto} (m : Nat), n ≤ m → loopW t u n ρ st = some r → loopW t u m ρ st = some r
  | 0, _, _, _, _, _, e => by cases e
  | n + 1, ρ, st, r, 0, h, _ => by omega
  | n + 1, ρ, st, r, m + 1, h, e => by
    simp only [loopW] at e ⊢
    obtain ⟨p, e1, e⟩ := bind_some e
    rw [e1]
    show (if p.1 = true then _ else _) = _
    split at e
    · rename_i hc
      rw [if_pos hc]
      obtain ⟨⟨fl, ρ1, st1⟩, e2, e⟩ := bind_some e
      rw [e2]
      cases fl with
      | nx => exact loopW_more m (by omega) e
      | ct => exact loopW_more m (by omega) e
      | bk => exact e
      | rt d => exact e
    · rename_i hc
      rw [if_neg hc]
      exact e
def FUEL : Nat := 1000000000
def sWhile (t : MT) (u : MS) : MS := fun ρ st => loopW t u FUEL ρ st
theorem while_to {K : PySem.W.Frag} {t : MT} {u : MS} {N : Nat} {Dn : Ends} {σ : L2.St} {H : Hp} (hw : tIS K cad (fun ρ st => loopW t u N ρ st) Dn σ H) : tWhile (tIT K cad t) (tIS K cad u) Dn σ H := by
  obtain ⟨as, st, ρ, fl, ρ', st', R, E, q, P⟩ := hw
  refine ⟨fun n σ2 H2 => ∃ as2 ρ2 st2, Ext K as H as2 H2 ∧ Rel K cad as2 st2 H2 ∧ ER K as2 H2 ρ2 σ2 ∧ loopW t u n ρ2 st2 = some (fl, ρ', st'), ⟨N, as, ρ, st, .refl, R, E, q⟩, ?_⟩
  rintro n σ2 H2 ⟨as2, ρ2, st2, x2, R2, E2, q2⟩
  cases n with
  | zero => cases q2
  | succ n =>
    simp only [loopW] at q2
    obtain ⟨⟨k, st3⟩, e1, q2⟩ := bind_some q2
    refine tIT_run R2 E2 e1 fun as3 H3 x3 R3 E3 => ?_
    cases k with
    | true =>
      rw [if_pos rfl] at q2
      obtain ⟨⟨fl4, ρ4, st4⟩, e4, q2⟩ := bind_some q2
      refine iteT ⟨fun σ5 H5 => ∃ as5 ρ5 st5, Ext K as H as5 H5 ∧ Rel K cad as5 st5 H5 ∧ ER K as5 H5 ρ5 σ5 ∧ loopW t u n ρ5 st5 = some (fl, ρ', st'), ?_, ?_⟩
      · rintro σ5 H5 ⟨as5, ρ5, st5, x5, R5, E5, q5⟩
        exact ⟨n, Nat.lt_succ_self n, as5, ρ5, st5, x5, R5, E5, q5⟩
      · refine tIS_run R3 E3 e4 fun as4 H4 σ4 x4 R4 E4 => ?_
        cases fl4 with
        | nx => exact ⟨as4, ρ4, st4, x2.trans (x3.trans x4), R4, E4, q2⟩
        | ct => exact ⟨as4, ρ4, st4, x2.trans (x3.trans x4), R4, E4, q2⟩
        | bk =>
          cases q2
          exact P as4 H4 σ4 (x2.trans (x3.trans x4)) R4 E4
        | rt d =>
          cases q2
          exact P as4 H4 σ4 (x2.trans (x3.trans x4)) R4 E4
    | false =>
      cases q2
      exact iteF (P as3 H3 σ2 (x2.trans x3) R3 E3)
theorem is_while {body : List Stmt} (hp : PassesOwn (model X.prog X.w) X.A X.env X.xe) (hc : IT X cad c t) (hb : ISs X cad body u) : ISt X cad (.While c body [] pos) (sWhile t u) :=
  ps_weak (ps_while hp hc hb) fun _ _ _ hw => while_to hw

/-! ### comprehensions -/
/-- own names forgotten -/
def wipeD (ρ : Rho) : List Nat → Rho
  | [] => ρ
  | v :: vs => (wipeD ρ vs).set v none
theorem ER.wipe {K : PySem.W.Frag} {as : List Addr} {H : Hp} {ρ : Rho} {σ : L2.St} (E : ER K as H ρ σ) : ∀ vs : List Nat, ER K as H (wipeD ρ vs) (L2.wipe σ vs)
  | [] => E
  | v :: vs => by
    have ih := E.wipe vs
    refine ⟨by show ((wipeD ρ vs).set v none).length = ((L2.wipe σ vs).set v none).length; rw [List.length_set, List.length_set, ih.1], fun i d e => ?_⟩
    have e' : ((wipeD ρ vs).set v none)[i]? = some (some d) := e
    by_cases hi : v = i
    · subst hi
      by_cases hv : v < (wipeD ρ vs).length
      · rw [List.getElem?_set_self hv] at e'
        cases e'
      · rw [List.getElem?_eq_none (by simpa using hv)] at e'
        cases e'
    · rw [List.getElem?_set_ne hi] at e'
      obtain ⟨w, e1, r⟩ := ih.2 i d e'
      exact ⟨w, by show ((L2.wipe σ vs).set v none)[i]? = _; rw [List.getElem?_set_ne hi]; exact e1, r⟩
theorem wipe_eq {σ σ2 : L2.St} (hl : σ.length = σ2.length) : ∀ {vs : List Nat}, (∀ i, i ∉ vs → σ[i]? = σ2[i]?) → L2.wipe σ vs = L2.wipe σ2 vs := fun {vs} h => by
  apply List.ext_getElem?
  intro i
  by_cases hi : i ∈ vs
  · have z : ∀ τ : L2.St, ∀ ws : List Nat, i ∈ ws → (L2.wipe τ ws)[i]? = if i < τ.length then some none else none := fun τ ws => by
      induction ws with
      | nil => intro h; cases h
      | cons w r ih =>
        intro h
        show ((L2.wipe τ r).set w none)[i]? = _
        by_cases e : w = i
        · subst e
          by_cases hl : w < τ.length
          · rw [if_pos hl, List.getElem?_set_self (by rw [L2.wipe_length]; exact hl)]
          · rw [if_neg hl, List.getElem?_eq_none (by rw [List.length_set, L2.wipe_length]; omega)]
        · rw [List.getElem?_set_ne e]
          rcases List.mem_cons.mp h with h | h
          · exact absurd h.symm e
          · exact ih h
    rw [z σ vs hi, z σ2 vs hi, hl]
  · rw [L2.wipe_out hi, L2.wipe_out hi]
    exact h i hi
theorem wipe_set1 {σ : L2.St} {vs : List Nat} {i : Nat} {x : V} (hi : i ∈ vs) : L2.wipe ((L2.wipe σ vs).set i (some x)) vs = L2.wipe σ vs := by
  have h1 : ∀ τ : L2.St, L2.wipe (L2.wipe τ vs) vs = L2.wipe τ vs := fun τ => wipe_eq (L2.wipe_length τ vs) fun j hj => L2.wipe_out hj
  rw [← h1 σ]
  refine wipe_eq (by rw [List.length_set, h1, L2.wipe_length]) fun j hj => ?_
  rw [List.getElem?_set_ne (fun e : i = j => hj (e ▸ hi)), h1]
/-- the targets of comprehensions: the own slots alone are stored -/
def IGw (X : Cx) (cad : Cad) (tg : Expr) (g : TG) (m : MG) (vs : List Nat) : Prop := PG X tg g
def GW (K : PySem.W.Frag) (g : TG) (m : MG) (vs : List Nat) : Prop := ∀ (as : List Addr) (H : Hp) (d : D) (v : V) (ρ ρ' : Rho) (σ : L2.St) (Q : L2.St → Hp → Prop), VR K as H d v → ER K as H ρ σ → m d ρ = some ρ' →
  (∀ σ', ER K as H ρ' σ' → (L2.wipe σ' vs = L2.wipe σ vs) → Q σ' H) → g v σ H Q
theorem gw_name {K : PySem.W.Frag} {i : Nat} {vs : List Nat} (hi : i ∈ vs) : GW K (gName i) (mName i) vs := fun as H d v ρ ρ' σ Q r E e P => by
  cases e
  refine P _ (E.set r) (wipe_eq (by simp) fun j hj => ?_)
  rw [List.getElem?_set_ne (fun e : i = j => hj (e ▸ hi))]
def GWs (K : PySem.W.Frag) (g : TGs) (m : List D → Rho → Option Rho) (vs : List Nat) : Prop := ∀ (as : List Addr) (H : Hp) (ds : List D) (xs : List V) (ρ ρ' : Rho) (σ : L2.St) (Q : L2.St → Hp → Prop), VRs K as H ds xs → ER K as H ρ σ → m ds ρ = some ρ' →
  (∀ σ', ER K as H ρ' σ' → (L2.wipe σ' vs = L2.wipe σ vs) → Q σ' H) → g xs σ H Q
theorem gws_nil {K : PySem.W.Frag} {vs : List Nat} : GWs K gNil mNil vs := fun as H ds xs ρ ρ' σ Q r E e P => by
  cases r with
  | nil =>
    cases e
    exact ⟨rfl, P σ E rfl⟩
  | cons _ _ => cases e
theorem gws_cons {K : PySem.W.Frag} {g1 : TG} {g2 : TGs} {m : MG} {n : List D → Rho → Option Rho} {vs : List Nat} (h1 : GW K g1 m vs) (h2 : GWs K g2 n vs) : GWs K (gCons g1 g2) (mCons m n) vs := fun as H ds xs ρ ρ' σ Q r E e P => by
  cases r with
  | nil => cases e
  | @cons d ds v xs r t =>
    obtain ⟨ρ1, e1, e2⟩ := bind_some e
    exact ⟨v, xs, rfl, h1 as H d v ρ ρ1 σ _ r E e1 fun σ1 E1 w1 => h2 as H ds xs ρ1 ρ' σ1 Q t E1 e2 fun σ2 E2 w2 => P σ2 E2 (w2.trans w1)⟩
theorem gw_tup {K : PySem.W.Frag} {n : Nat} {g2 : TGs} {m : List D → Rho → Option Rho} {vs : List Nat} (h : GWs K g2 m vs) : GW K (gTup K n g2) (mTup n m) vs := fun as H d v ρ ρ' σ Q r E e P => by
  cases r with
  | @tup a xs ds hs rs =>
    simp only [mTup] at e
    split at e
    · rename_i hl
      exact ⟨a, xs, rfl, hs, by rw [← rs.length]; exact hl, h as H ds xs ρ ρ' σ Q rs E e P⟩
    · cases e
  | _ => cases e
def tYesM : MT := fun _ st => some (true, st)
open Classical in
/-- the turns: n the new list's place -/
noncomputable def loopC (chk : Sto → Prop) (m : MG) (t : MT) (f : ME) (ρ0 : Rho) (n : Nat) : List D → Sto → Option Sto
  | [] => fun st => if chk st then some st else none
  | d :: r => fun st => if chk st then (m d ρ0).bind fun ρ1 => (t ρ1 st).bind fun q => if q.1 = true then (f ρ1 q.2).bind fun z => match myL z.2 n with
      | some acc => if acc.length < LIM then loopC chk m t f ρ0 n r (z.2.set n (.lst (acc ++ [z.1]))) else none
      | none => none
      else loopC chk m t f ρ0 n r q.2
    else none
noncomputable def eLc (vs : List Nat) (fi : MI) (m : MG) (t : MT) (f : ME) : ME := fun ρ st => (fi ρ st).bind fun p => (loopC p.1.2 m t f (wipeD ρ vs) p.2.length p.1.1 (p.2 ++ [.lst []])).map fun st' => (.ref p.2.length, st')
theorem lc_to {K : PySem.W.Frag} {wi : TI} {fi : MI} {g1 : TG} {m : MG} {vs : List Nat} {tt : TT} (hi : ∀ σ H R, tII K cad fi σ H R → wi σ H R) (hg : GW K g1 m vs) (ht : ∀ σ H Q, tIT K cad t σ H Q → tt σ H Q)
    {σ : L2.St} {H : Hp} {Q : VK} (hw : tI K cad (eLc vs fi m t f) σ H Q) : tLc wi g1 tt (tI K cad f) vs σ H Q := by
  obtain ⟨as, st, ρ, d0, st', R, E, q, P⟩ := hw
  obtain ⟨⟨⟨ds, chk⟩, st1⟩, e1, q⟩ := bind_some q
  obtain ⟨stE, qe, q'⟩ := map_some q
  obtain ⟨rfl, rfl⟩ := Prod.mk.inj q'
  refine hi σ H _ ⟨as, st, ρ, ds, chk, st1, R, E, e1, fun as1 H1 J x1 R1 D1 => ?_⟩
  intro p hp
  have xp : Ext K as1 H1 (as1 ++ [p]) (upd H1 p (.lst [])) := Ext.fresh1 hp
  have Rp : Rel K cad (as1 ++ [p]) (st1 ++ [.lst []]) (upd H1 p (.lst [])) := R1.new hp ⟨[], upd_same, .nil⟩
  have ap : (as1 ++ [p])[st1.length]? = some p := by rw [← R1.len]; simp
  refine ⟨fun i n H2 => ∃ as2 st2, n = ds.length - i ∧ i ≤ ds.length ∧ Ext K (as1 ++ [p]) (upd H1 p (.lst [])) as2 H2 ∧ Rel K cad as2 st2 H2 ∧ loopC chk m t f (wipeD ρ vs) st1.length (ds.drop i) st2 = some stE,
    ⟨ds.length, as1 ++ [p], st1 ++ [Ob.lst []], rfl, Nat.zero_le _, .refl, Rp, qe⟩, ?_⟩
  rintro i n H2 ⟨as2, st2, rfl, hi2, x2, R2, q2⟩
  have Ew : ER K as2 H2 (wipeD ρ vs) (L2.wipe σ vs) := ((E.mono x1).mono (xp.trans x2)).wipe vs
  by_cases hlt : i < ds.length
  · rw [List.drop_eq_getElem_cons hlt] at q2
    simp only [loopC] at q2
    split at q2
    · rename_i hc
      obtain ⟨ρ3, e3, q2⟩ := bind_some q2
      obtain ⟨⟨k, st4⟩, e4, q2⟩ := bind_some q2
      obtain ⟨g1', g2'⟩ := D1.go as2 st2 H2 i ds[i] (xp.trans x2) R2 hc (List.getElem?_eq_getElem hlt)
      refine .inr ⟨g1', fun H5 => ∃ as5 st5, Ext K (as1 ++ [p]) (upd H1 p (.lst [])) as5 H5 ∧ Rel K cad as5 st5 H5 ∧ loopC chk m t f (wipeD ρ vs) st1.length (ds.drop (i + 1)) st5 = some stE, ?_, ?_⟩
      · rintro H5 ⟨as5, st5, x5, R5, q5⟩
        exact ⟨ds.length - (i + 1), by omega, as5, st5, rfl, hlt, x5, R5, q5⟩
      · intro x H3 hy
        obtain ⟨x3, R3, rv⟩ := g2' x H3 hy
        refine hg as2 H3 ds[i] x (wipeD ρ vs) ρ3 (L2.wipe σ vs) _ rv (Ew.mono x3) e3 fun σ3 E3 w3 => ⟨?_, ?_⟩
        · rw [w3]
          exact wipe_eq (L2.wipe_length σ vs) fun j hj => L2.wipe_out hj
        · refine ht _ _ _ (tIT_run R3 E3 e4 fun as4 H4 x4 R4 E4 => ?_)
          cases k with
          | true =>
            rw [if_pos rfl] at q2
            obtain ⟨⟨y, st5⟩, e5, q2⟩ := bind_some q2
            refine iteT (tI_run R4 E4 e5 fun as5 H5 v x5 R5 E5 r5 => ?_)
            simp only at q2
            split at q2
            · rename_i acc e6
              split at q2
              · rename_i hl
                have xx := (x2.trans (x3.trans (x4.trans x5)))
                have ap5 := xx.at ap
                obtain ⟨ws, hws, rws⟩ := R5.myL e6 ap5
                have e7 := myL_at e6
                obtain ⟨u0, q0, q1, q3⟩ := (R5.ob _ _ p e7 ap5).there rfl
                have x6 : Ext K as5 H5 as5 (upd H5 p (.lst (ws ++ [v]))) := ⟨⟨[], by simp⟩, fun b ys h => sqT_write q0 q1 q3 h⟩
                obtain ⟨R6, _⟩ := R5.write (u := .lst (ws ++ [v])) (o' := .lst (acc ++ [y])) e7 ap5 rfl rfl ⟨_, upd_same, (rws.append (.cons r5 .nil)).mono x6⟩
                exact ⟨ws, hws, by rw [← rws.length]; exact lim_lt hl, as5, _, xx.trans x6, R6, q2⟩
              · cases q2
            · cases q2
          | false => exact iteF ⟨as4, st4, x2.trans (x3.trans x4), R4, q2⟩
    · cases q2
  · have e : i = ds.length := by omega
    subst e
    rw [List.drop_length] at q2
    simp only [loopC] at q2
    split at q2
    · rename_i hc
      cases q2
      exact .inl ⟨D1.stop as2 _ H2 (xp.trans x2) R2 hc, P as2 H2 (.ref p) (x1.trans (xp.trans x2)) R2 (.ref (x2.at ap))⟩
    · cases q2
theorem tYes_to {K : PySem.W.Frag} : ∀ σ H Q, tIT K cad tYesM σ H Q → tYes σ H Q := fun σ H Q ⟨as, st, ρ, b, st', R, E, q, P⟩ => by
  cases q
  exact P as H .refl R
theorem ie_lc {elt it : Expr} {ifs : List Expr} {scope : Scope} {own : List (Str × Nat)} {wi : TI} {fi : MI} {g1 : TG} {m : MG} {tt : TT} (hc : X.calm = true) (hN : X.N.Nodup) (hi : II X cad tg it wi fi) (ok : BlkOk X.N X.env.scope scope own)
    (hg : ∀ (s : Shared) (H : Hp) (C : Addr) (cl : List (Str × Addr)) (fp : List Addr), PG (X.blk s H scope (compEnvC scope cl C X.env) fp) tg g1) (hw : GW X.K g1 m (own.map (·.2)))
    (ht : ∀ (s : Shared) (H : Hp) (C : Addr) (cl : List (Str × Addr)) (fp : List Addr), PTs (X.blk s H scope (compEnvC scope cl C X.env) fp) ifs tt) (htt : ∀ σ H Q, tIT X.K cad t σ H Q → tt σ H Q)
    (he : ∀ (s : Shared) (H : Hp) (C : Addr) (cl : List (Str × Addr)) (fp : List Addr), IE (X.blk s H scope (compEnvC scope cl C X.env) fp) cad elt f) (hs : ∀ x, foldedSetIterable it X.env x = pure x := by intro _; rfl) :
    IE X cad (.ListComp elt [⟨tg, it, ifs, 0⟩] scope pos) (eLc (own.map (·.2)) fi m t f) :=
  pe_weak (pe_lc (te := tI X.K cad f) hc hN hi.1 ok hg ht (fun s H C cl fp => he s H C cl fp) hs) fun _ _ _ h => lc_to hi.2 hw htt h
theorem is_setLc {i : Nat} {y : Str} {py spos : Pos} {elt it : Expr} {ifs : List Expr} {scope : Scope} {own : List (Str × Nat)} {wi : TI} {fi : MI} {g1 : TG} {m : MG} {tt : TT} (hc : X.calm = true) (hN : X.N.Nodup) (hy : X.N[i]? = some y) (hyl : X.env.scope.names.lookup y = some .local)
    (hsw : swapsWith (.ListComp elt [⟨tg, it, ifs, 0⟩] scope pos) (some (.Name y py)) spos.line X.env = pure true) (hi : II X cad tg it wi fi) (ok : BlkOk X.N X.env.scope scope own)
    (hg : ∀ (s : Shared) (H : Hp) (C : Addr) (cl : List (Str × Addr)) (fp : List Addr), PG (X.blk s H scope (compEnvC scope cl C X.env) fp) tg g1) (hw : GW X.K g1 m (own.map (·.2)))
    (ht : ∀ (s : Shared) (H : Hp) (C : Addr) (cl : List (Str × Addr)) (fp : List Addr), PTs (X.blk s H scope (compEnvC scope cl C X.env) fp) ifs tt) (htt : ∀ σ H Q, tIT X.K cad t σ H Q → tt σ H Q)
    (he : ∀ (s : Shared) (H : Hp) (C : Addr) (cl : List (Str × Addr)) (fp : List Addr), IE (X.blk s H scope (compEnvC scope cl C X.env) fp) cad elt f) (hs : ∀ x, foldedSetIterable it X.env x = pure x := by intro _; rfl) :
    ISt X cad (.Assign [.Name y py] (.ListComp elt [⟨tg, it, ifs, 0⟩] scope pos) spos) (sSet i (eLc (own.map (·.2)) fi m t f)) := by
  refine ps_weak (ps_setLc (te := tI X.K cad f) hc hN hy hyl hsw hi.1 ok hg ht (fun s H C cl fp => he s H C cl fp) hs) fun Dn σ H hw2 => ?_
  obtain ⟨as, st, ρ, fl, ρ', st', R, E, q, P⟩ := hw2
  obtain ⟨⟨x, st1⟩, e1, e2⟩ := map_some q
  cases e2
  exact lc_to hi.2 hw htt (tI_run R E e1 fun as1 H1 v x1 R1 E1 r1 => P as1 H1 _ x1 R1 (E1.set r1))

/-! ### bodies of defs -/
def mkFn (N ar : Nat) (u : MS) : FN := fun ds st => if ds.length = ar then match u (ds.map some ++ List.replicate (N - ar) none) st with
    | some (.rt d, _, st') => some (d, st')
    | some (.nx, _, st') => some (.non, st')
    | _ => none
  else none
theorem ER.start {K : PySem.W.Frag} {as : List Addr} {H : Hp} {ds : List D} {vs : List V} (r : VRs K as H ds vs) (n : Nat) : ER K as H (ds.map some ++ List.replicate n none) (vs.map some ++ List.replicate n none) := by
  refine ⟨by simp [r.length], fun i d e => ?_⟩
  by_cases hi : i < ds.length
  · rw [List.getElem?_append_left (by simpa using hi), List.getElem?_map] at e
    obtain ⟨d', e1, e2⟩ := map_some e
    cases e2
    obtain ⟨v, hv, rv⟩ := r.get e1
    refine ⟨v, ?_, rv⟩
    rw [List.getElem?_append_left (by simpa [← r.length] using hi), List.getElem?_map, hv]
    rfl
  · rw [List.getElem?_append_right (by simpa using hi)] at e
    have := List.mem_of_getElem? e
    rw [List.mem_replicate] at this
    cases this.2
/-- THE RULE: a def does what the mirror of its body tells -/
theorem fn_ok {P : Program} {w : World} {K : PySem.W.Frag} {mg : Str → Option Value} {base : Heap} {x qual : Str} {st : Stmt} {fa : Addr} {fd : FuncData} {N ps : List Str} {k : Nat} {u : MS} (F : Fun K x qual st fa fd) (S : FnScope N ps (defScope st))
    (hbody : ∀ (cdv : Value) (A : Around) (outer : List Env) (s : Shared) (H : Hp) (E : XK), Room k (A.deeper (envOfC qual (defScope st) s.heap.objs.size fa cdv)) → ISs (cxOf CX0 P w K mg base N qual (defScope st) fa cdv A outer s H E).nox cad (defBody st) u) :
    FnOk P w K mg base CX0 (k + 1) fa fd ps (spOf K cad (mkFn N.length ps.length u)) := by
  refine F.ok S (fun vs H Q E h => ?_) (fun cdv A outer s H vs Q E hr h => ?_)
  · obtain ⟨as, st, ds, d, st', R, r, e, _⟩ := h
    unfold mkFn at e
    split at e
    · rename_i hl
      rw [← r.length]
      exact hl
    · cases e
  · refine ⟨_, hbody cdv A outer s H E hr, ?_⟩
    obtain ⟨as, st, ds, d, st', R, r, e, P⟩ := h
    unfold mkFn at e
    split at e
    · rename_i hl
      have hst : L2.start N vs = vs.map some ++ List.replicate (N.length - ps.length) none := by
        unfold L2.start
        rw [← r.length, hl]
      rw [hst]
      split at e
      · rename_i d' ρ' st'' e1
        cases e
        refine ⟨as, st, _, _, ρ', _, R, ER.start r (N.length - ps.length), e1, fun as' H' σ' x R' E' v rv => P as' H' v x R' rv⟩
      · rename_i ρ' st'' e1
        cases e
        exact ⟨as, st, _, _, ρ', _, R, ER.start r (N.length - ps.length), e1, fun as' H' σ' x R' E' => P as' H' .non x R' .non⟩
      · cases e
    · cases e
end
end MP

set_option maxRecDepth 100000
/-! MP 9: a text's defs as facts; the law's end. -/
namespace MP
open PySem PySem.Spec PyProof.Rows L2

/-- a def of the text stands behind the top under its name -/
structure FnAt (K : PySem.W.Frag) (mg : Str → Option Value) (x : Str) (st : Stmt) (ps : List Str) : Prop where
  ex : ∃ (f : Addr) (fd : FuncData), mg x = some (.ref f) ∧ Fun K x x st f fd ∧ Binds K fd ps []
theorem fnAt_mk {K : PySem.W.Frag} {h : Heap} {mg : Str → Option Value} (X : K.In h) (G : h.Ns mainGlobals mg) {x : Str} {st : Stmt} {ps : List Str} {f : Addr} {od an : Option Addr} {sl : Array (Option Value)} {oc kV dc pm cd ct : Value}
    (a : PySem.W.nsIn K mainGlobals x = some (some (.ref f))) (l : K.lookup f = some ⟨oc, od, .func (PySem.W.fnOf x x (defArgs st) (defBody st) (defScope st) .none kV dc pm an cd ct), sl⟩) (c : PySem.W.codeIn K cd x = true) (k : PySem.W.keepIn K (.ref f) = true)
    (hb : ∀ (kV doc pm : Value) (an : Option Addr) (cdv ct : Value) (us : List Value), us.length = ps.length → bindArgs (PySem.W.fnOf x x (defArgs st) (defBody st) (defScope st) .none kV doc pm an cdv ct) ⟨us, []⟩ = pure (ps.zip us)) : FnAt K mg x st ps :=
  ⟨f, _, PySem.W.mg_of X G a, fun_mk l c k, (fun_mk l c k).binds hb⟩
section
variable {P : Program} {w : World} {K : PySem.W.Frag} {mg : Str → Option Value} {base : Heap} {cad : Cad}
theorem fn_fact {x : Str} {st : Stmt} {N ps : List Str} {k : Nat} {u : MS} (A : FnAt K mg x st ps) (S : FnScope N ps (defScope st))
    (hbody : ∀ (fa : Addr) (cdv : Value) (A : Around) (outer : List Env) (s : Shared) (H : Hp) (E : XK), Room k (A.deeper (envOfC x (defScope st) s.heap.objs.size fa cdv)) → ISs (cxOf CX0 P w K mg base N x (defScope st) fa cdv A outer s H E).nox cad (defBody st) u) :
    FnFact P w K mg base cad x (k + 1) [] (mkFn N.length ps.length u) := by
  obtain ⟨f, fd, hm, F, hb⟩ := A.ex
  exact ⟨f, fd, ps, [], [], fn_ok F S (fun cdv A outer s H E hr => hbody f cdv A outer s H E hr), hm, F.kp, hb, .nil, fun _ _ => .nil⟩
theorem fn_fact0 {x : Str} {st : Stmt} {ps : List Str} {k : Nat} (A : FnAt K mg x st ps) : FnFact P w K mg base cad x k [] (fun _ _ => none) := by
  obtain ⟨f, fd, hm, F, hb⟩ := A.ex
  refine ⟨f, fd, ps, [], [], ⟨fun vs H Q E h => ?_, fun A outer s H args us vs Q E hr he hb hv hs => ?_⟩, hm, F.kp, hb, .nil, fun _ _ => .nil⟩
  · obtain ⟨as, st, ds, d, st', R, r, e, _⟩ := h
    cases e
  · obtain ⟨as, st, ds, d, st', R, r, e, _⟩ := hs
    cases e
theorem FnFact.more {x : Str} {k k' : Nat} {dds : List D} {F : FN} (h : FnFact P w K mg base cad x k dds F) (hk : k ≤ k') : FnFact P w K mg base cad x k' dds F := by
  obtain ⟨f, fd, ps, dvs, dus, G, r⟩ := h.ex
  exact ⟨f, fd, ps, dvs, dus, G.mono hk, r⟩
end
/-- the law's def over the script alone tells True -/
def spLaw (K : PySem.W.Frag) : Sp := fun vs H Q _ => ∃ (a : Addr) (ns : List Int), vs = [.ref a] ∧ SqL K H a (ns.map V.int) ∧ Only H ∧ ns.length ≤ 63 ∧ ∀ H', Q (.bl true) H'
theorem law_imp {P : Program} {w : World} {K : PySem.W.Frag} {mg : Str → Option Value} {base : Heap} {cad : Cad} {k : Nat} {f : Addr} {fd : FuncData} {ps : List Str} {F : FN} (G : FnOk P w K mg base CX0 k f fd ps (spOf K cad F))
    (hlaw : ∀ ns : List Int, ns.length ≤ 63 → ∃ st', F [.ref 0] [.fz (ns.map D.int)] = some (.bl true, st')) : FnOk P w K mg base CX0 k f fd ps (spLaw K) := by
  refine G.imp fun vs H Q E h => ?_
  obtain ⟨a, ns, rfl, hs, ho, hl, q⟩ := h
  obtain ⟨st', e⟩ := hlaw ns hl
  refine ⟨[a], [.fz (ns.map D.int)], [.ref 0], .bl true, st', ⟨rfl, fun i j b o u h1 h2 h3 h4 h5 h6 => ?_, fun n o b h1 h2 => ?_⟩, .cons (.ref rfl) .nil, e, fun as' H' v x R' r => ?_⟩
  · cases i with
    | zero =>
      cases h3
      cases h5
    | succ i => simp at h3
  · cases n with
    | zero =>
      cases h1
      cases h2
      refine ⟨ns.map V.int, ?_, VRs.ints ns⟩
      rcases hs with (h | h) | h
      · rcases ho a with z | ⟨ob, xs, z⟩
        · rw [z] at h
          cases h
        · rw [z] at h
          cases h
      · exact .inl h
      · exact .inr fun H' => .inr h
    | succ n => simp at h1
  · cases r
    exact q H'
theorem walk {l : PySem.W.OpenLaw} {q : Program} {loose : List Str} {XP : (Str → Option Value) → Heap → Prop} {YP : World → Heap → Prop} {d : DefRec} {K : Params → PySem.W.Frag} {x : Str} {k : Nat} (hn : l.most = some 63) (hdf : d.params.defaults = []) (hr : Room k callerA)
    (hY : ∀ (w : World) (h : Heap), YP w h → (K w.params).In h)
    (F : ∀ (w : World) (mg : Str → Option Value) (fa : Addr) (h : Heap), (K w.params).In h → h.Ns mainGlobals mg → mg d.name = some (.ref fa) →
      ∃ fd : FuncData, (∀ (s : Shared) (u : Value), BindsTo s fd ⟨[u], []⟩ [(x, u)]) ∧ ∀ base : Heap, (K w.params).In base → base.Ns mainGlobals mg → FnOk l.prog w (K w.params) mg base CX0 k fa fd [x] (spLaw (K w.params))) :
    PySem.W.WalkO q loose XP YP l.row.toRowW d [] (fun f vs => PySem.call f vs) :=
  L2.walk_of (n := 63) (k := k) (x := x) (CX := fun _ => CX0) (sp := fun w => spLaw (K w.params)) hn (by decide) hdf hr hY F (fun _ _ a ns hl ho hS => ⟨a, ns, rfl, hS, ho, hl, fun _ => rfl⟩) fun _ _ _ _ _ z => z
end MP

set_option maxRecDepth 100000
/-! MP A: displays of dicts. -/
namespace MP
open PySem PySem.Spec PyProof.Rows L2
abbrev MPs := Rho → Sto → Option (List (D × D) × Sto)
inductive VR2 (K : PySem.W.Frag) (as : List Addr) (H : Hp) : List (D × D) → List (V × V) → Prop
  | nil : VR2 K as H [] []
  | cons {d e : D} {v w : V} {ps : List (D × D)} {qs : List (V × V)} : VR K as H d v → VR K as H e w → VR2 K as H ps qs → VR2 K as H ((d, e) :: ps) ((v, w) :: qs)
def tIP (K : PySem.W.Frag) (cad : Cad) (g : MPs) (σ : L2.St) (H : Hp) (k : List (V × V) → Hp → Prop) : Prop :=
  ∃ as st ρ ps st', Rel K cad as st H ∧ ER K as H ρ σ ∧ g ρ st = some (ps, st') ∧ ∀ as' H' qs, Ext K as H as' H' → Rel K cad as' st' H' → VR2 K as' H' ps qs → k qs H'
def IPs (X : Cx) (cad : Cad) (pos : Pos) (keys : List (Option Expr)) (values : List Expr) (trs : List (TE × TE)) (g : MPs) : Prop := PPs X pos keys values trs ∧ ∀ σ H k, tIP X.K cad g σ H k → tPairs trs σ H k
section
variable {X : Cx} {cad : Cad} {a b : Expr} {f h : ME} {pos : Pos} {ks : List (Option Expr)} {vs : List Expr} {trs : List (TE × TE)} {g : MPs}
def psNil : MPs := fun _ st => some ([], st)
def psCons (f h : ME) (g : MPs) : MPs := fun ρ st => (f ρ st).bind fun p => (h ρ p.2).bind fun q => (g ρ q.2).map fun r => ((p.1, q.1) :: r.1, r.2)
theorem ips_nil : IPs X cad pos [] [] [] psNil := ⟨pps_nil, fun σ H k ⟨as, st, ρ, ps, st', R, E, q, P⟩ => by
  cases q
  exact P as H [] .refl R .nil⟩
theorem ips_cons (ha : IE X cad a f) (hb : IE X cad b h) (hr : IPs X cad pos ks vs trs g) : IPs X cad pos (some a :: ks) (b :: vs) ((tI X.K cad f, tI X.K cad h) :: trs) (psCons f h g) := by
  refine ⟨pps_cons ha hb hr.1, fun σ H k ⟨as, st, ρ, ps, st', R, E, q, P⟩ => ?_⟩
  obtain ⟨⟨x, st1⟩, e1, q⟩ := bind_some q
  obtain ⟨⟨y, st2⟩, e2, q⟩ := bind_some q
  obtain ⟨⟨r, st3⟩, e3, q⟩ := map_some q
  cases q
  exact tI_run R E e1 fun as1 H1 v x1 R1 E1 r1 => tI_run R1 E1 e2 fun as2 H2 w x2 R2 E2 r2 => hr.2 σ H2 _ ⟨as2, st2, ρ, r, st3, R2, E2, e3, fun as3 H3 qs x3 R3 r3 =>
    P as3 H3 ((v, w) :: qs) (x1.trans (x2.trans x3)) R3 (.cons (r1.mono (x2.trans x3)) (r2.mono x3) r3)⟩
def keysO : List (D × D) → Option (List (Key × D))
  | [] => some []
  | p :: r => (keyOf p.1).bind fun k => (keysO r).map fun s => (k, p.2) :: s
def mergeD (kvs more : List (Key × D)) : List (Key × D) := more.foldl (fun acc kv => putD acc kv.1 kv.2) kvs
theorem KVR.merge {K : PySem.W.Frag} {as : List Addr} {H : Hp} {more : List (Key × D)} {ms : List (Key × V)} (r : KVR K as H more ms) : ∀ {kvs : List (Key × D)} {xs : List (Key × V)}, KVR K as H kvs xs → KVR K as H (mergeD kvs more) (mergeK xs ms) := by
  induction r with
  | nil => intro _ _ q; exact q
  | @cons p q ps qs h _ ih =>
    intro kvs xs r0
    have e := r0.put p.1 h.2
    show KVR K as H (mergeD (putD kvs p.1 p.2) ps) (mergeK (putK xs q.1 q.2) qs)
    rw [← h.1]
    exact ih e
theorem keysO_to {K : PySem.W.Frag} {as : List Addr} {H : Hp} : ∀ {ps : List (D × D)} {qs : List (V × V)} {kvs : List (Key × D)}, VR2 K as H ps qs → keysO ps = some kvs → ∃ xs : List (Key × V), qs = xs.map (fun kv => (kV kv.1, kv.2)) ∧ KVR K as H kvs xs ∧ xs.length = kvs.length
  | _, _, _, .nil, e => by
    cases e
    exact ⟨[], rfl, .nil, rfl⟩
  | _, _, _, .cons (d := d) (e := e') (v := v) (w := w) r1 r2 t, e => by
    obtain ⟨k, e1, e2⟩ := bind_some e
    obtain ⟨s, e3, rfl⟩ := map_some e2
    obtain ⟨xs, h1, h2, h3⟩ := keysO_to t e3
    refine ⟨(k, w) :: xs, ?_, .cons ⟨rfl, r2⟩ h2, by simp [h3]⟩
    rw [h1, List.map_cons, keyOf_is r1 e1]
def eDisp (g : MPs) : ME := fun ρ st => (g ρ (st ++ [.dic []])).bind fun p => (keysO p.1).bind fun kvs => match myD p.2 st.length with
  | some [] => if kvs.length ≤ 15 then some (.ref st.length, p.2.set st.length (.dic (mergeD [] kvs))) else none
  | _ => none
theorem ie_disp (hp : IPs X cad pos ks vs trs g) (hall : ks.all (·.isSome) = true) (hl : ks.length = vs.length) (h0 : ks ≠ []) (h15 : ks.length ≤ 15) : IE X cad (.Dict ks vs pos) (eDisp g) := by
  refine pe_weak (pe_disp hp.1 hall hl h0 h15) fun σ H Q => ?_
  rintro ⟨as, st, ρ, d, st', R, E, q, P⟩
  obtain ⟨⟨ps, st1⟩, e1, q⟩ := bind_some q
  obtain ⟨kvs, e2, q⟩ := bind_some q
  intro p hpn
  have xp : Ext X.K as H (as ++ [p]) (upd H p (.dK [])) := Ext.fresh1 hpn
  have Rp : Rel X.K cad (as ++ [p]) (st ++ [.dic []]) (upd H p (.dK [])) := R.new hpn ⟨[], upd_same, .nil⟩
  have ap : (as ++ [p])[st.length]? = some p := by rw [← R.len]; simp
  refine hp.2 σ _ _ ⟨as ++ [p], st ++ [.dic []], ρ, ps, st1, Rp, E.mono xp, e1, fun as1 H1 qs x1 R1 r1 => ?_⟩
  simp only at q
  split at q
  · rename_i e3
    split at q
    · rename_i hz
      cases q
      have ap1 := x1.at ap
      obtain ⟨ws, hw, rw'⟩ := R1.myD e3 ap1
      cases rw'
      obtain ⟨xs, h1, h2, h3⟩ := keysO_to r1 e2
      refine ⟨hw, xs, h1, by omega, ?_⟩
      have e4 := myD_at e3
      obtain ⟨u0, q0, q1, q2⟩ := (R1.ob _ _ p e4 ap1).there rfl
      have x2 : Ext X.K as1 H1 as1 (upd H1 p (.dK (mergeK [] xs))) := ⟨⟨[], by simp⟩, fun b ys h => sqT_write q0 q1 q2 h⟩
      obtain ⟨R2, _⟩ := R1.write (u := .dK (mergeK [] xs)) (o' := .dic (mergeD [] kvs)) e4 ap1 rfl rfl ⟨_, upd_same, Paired.map2 (fun _ _ z => ⟨z.1, z.2.mono x2⟩) (h2.merge .nil)⟩
      exact P as1 _ (.ref p) (xp.trans (x1.trans x2)) R2 (.ref ap1)
    · cases q
  · cases q
end
end MP

set_option maxRecDepth 100000
/-! MP B: how mirrors are reckoned, step by step (each row by rfl): what comes first is reckoned first. -/
namespace MP
open PySem PySem.Spec L2
section
variable {o o' : O2} {u1 : D → Sto → Option (D × Sto)} {f g h : ME} {ga : MA} {t t' : MT} {u v : MS} {ρ ρ' : Rho} {st : Sto} {d e x y : D} {ds : List D} {b : Bool} {F : FN} {i j l N : Nat} {m : MG} {fi : MI}
/-! names, constants -/
def kVar (st : Sto) : Option (Option D) → Option (D × Sto)
  | some (some d) => some (d, st)
  | _ => none
theorem eVar_at : eVar i ρ st = kVar st ρ[i]? := by
  unfold eVar
  cases ρ[i]? with
  | none => rfl
  | some o => cases o <;> rfl
theorem kVar_some : kVar st (some (some d)) = some (d, st) := rfl
theorem eC_at : eC d ρ st = some (d, st) := rfl
/-! operations -/
def k3 (o : O2) (d : D) (r : Option (D × Sto)) : Option (D × Sto) := r.bind fun q => o d q.1 q.2
def k2 (o : O2) (g : ME) (ρ : Rho) (r : Option (D × Sto)) : Option (D × Sto) := r.bind fun p => (g ρ p.2).bind fun q => o p.1 q.1 q.2
theorem eBin_at : eBin o f g ρ st = k2 o g ρ (f ρ st) := rfl
theorem k2_some : k2 o g ρ (some (d, st)) = k3 o d (g ρ st) := rfl
theorem k3_some : k3 o d (some (e, st)) = o d e st := rfl
def k1 (u1 : D → Sto → Option (D × Sto)) (r : Option (D × Sto)) : Option (D × Sto) := r.bind fun p => u1 p.1 p.2
theorem eUn_at : eUn u1 f ρ st = k1 u1 (f ρ st) := rfl
theorem k1_some : k1 u1 (some (d, st)) = u1 d st := rfl
/-- a value, the store as it is -/
def kVal (st : Sto) (r : Option D) : Option (D × Sto) := r.map fun d => (d, st)
theorem kVal_some : kVal st (some d) = some (d, st) := rfl
def kBl (st : Sto) (r : Option Bool) : Option (D × Sto) := r.map fun b => (.bl b, st)
theorem kBl_some : kBl st (some b) = some (.bl b, st) := rfl
theorem kEq_at : kEq x y st = kBl st (eqO st x y) := rfl
def kBlN (st : Sto) (r : Option Bool) : Option (D × Sto) := r.map fun b => (.bl (!b), st)
theorem kBlN_some : kBlN st (some b) = some (.bl (!b), st) := rfl
theorem kNe_at : kNe x y st = kBlN st (eqO st x y) := rfl
theorem kIn_at : kIn false x y st = kBl st (inO st x y) := rfl
theorem kNotIn_at : kIn true x y st = kBlN st (inO st x y) := rfl
theorem kIx_at : kIx x y st = kVal st (ixO x y st) := rfl
theorem ixO_tup {k : Int} : ixO (.tup ds) (.int k) st = atI ds k := rfl
theorem kLt_int {k n : Int} : kLt (.int k) (.int n) st = some (.bl (decide (k < n)), st) := rfl
theorem kLe_int {k n : Int} : kLe (.int k) (.int n) st = some (.bl (decide (k ≤ n)), st) := rfl
theorem kGt_int {k n : Int} : kGt (.int k) (.int n) st = some (.bl (decide (n < k)), st) := rfl
theorem kGe_int {k n : Int} : kGe (.int k) (.int n) st = some (.bl (decide (n ≤ k)), st) := rfl
theorem kLt_str {k n : List Nat} : kLt (.str k) (.str n) st = some (.bl (decide (k < n)), st) := rfl
theorem kLe_str {k n : List Nat} : kLe (.str k) (.str n) st = some (.bl (!decide (n < k)), st) := rfl
theorem kGt_str {k n : List Nat} : kGt (.str k) (.str n) st = some (.bl (decide (n < k)), st) := rfl
theorem kGe_str {k n : List Nat} : kGe (.str k) (.str n) st = some (.bl (!decide (k < n)), st) := rfl
theorem kIs_non : kIs .non .non st = some (.bl true, st) := rfl
theorem kIs_bl : kIs (.bl b) .non st = some (.bl false, st) := rfl
theorem kIs_int {k : Int} : kIs (.int k) .non st = some (.bl false, st) := rfl
theorem kIs_str {k : List Nat} : kIs (.str k) .non st = some (.bl false, st) := rfl
theorem kIs_tup : kIs (.tup ds) .non st = some (.bl false, st) := rfl
theorem kIs_ref : kIs (.ref i) .non st = some (.bl false, st) := rfl
theorem kIsNot_non : kIsNot .non .non st = some (.bl false, st) := rfl
theorem kIsNot_bl : kIsNot (.bl b) .non st = some (.bl true, st) := rfl
theorem kIsNot_int {k : Int} : kIsNot (.int k) .non st = some (.bl true, st) := rfl
theorem kIsNot_str {k : List Nat} : kIsNot (.str k) .non st = some (.bl true, st) := rfl
theorem kIsNot_tup : kIsNot (.tup ds) .non st = some (.bl true, st) := rfl
theorem kIsNot_ref : kIsNot (.ref i) .non st = some (.bl true, st) := rfl
theorem opAdd_int {k n : Int} : opAdd (.int k) (.int n) st = some (.int (k + n), st) := rfl
theorem opAdd_str {k n : List Nat} : opAdd (.str k) (.str n) st = if k.length + n.length ≤ LIM then some (.str (k ++ n), st) else none := rfl
theorem opSub_int {k n : Int} : opSub (.int k) (.int n) st = some (.int (k - n), st) := rfl
theorem opMul_int {k n : Int} : opMul (.int k) (.int n) st = if cMul k n then some (.int (k * n), st) else none := rfl
theorem opDiv_int {k n : Int} : opDiv (.int k) (.int n) st = if cDiv k n then some (.int (gDiv k n), st) else none := rfl
theorem opMod_int {k n : Int} : opMod (.int k) (.int n) st = if cMod k n then some (.int (gMod k n), st) else none := rfl
theorem opPow_int {k n : Int} : opPow (.int k) (.int n) st = if cPow k n then some (.int (k ^ n.toNat), st) else none := rfl
theorem opAnd_int {k n : Int} : opAnd (.int k) (.int n) st = some (.int (Builtin.bitAnd k n), st) := rfl
theorem opOr_int {k n : Int} : opOr (.int k) (.int n) st = some (.int (Builtin.bitOr k n), st) := rfl
theorem opNeg_int {k : Int} : opNeg (.int k) st = some (.int (-k), st) := rfl
/-! chains -/
def kc4 (o' : O2) (y : D) (r : Option (D × Sto)) : Option (D × Sto) := r.bind fun z => o' y z.1 z.2
def kc3 (o' : O2) (h : ME) (ρ : Rho) (y : D) (r : Option (D × Sto)) : Option (D × Sto) := r.bind fun r => match r.1 with
  | .bl true => (h ρ r.2).bind fun z => o' y z.1 z.2
  | .bl false => some (.bl false, r.2)
  | _ => none
def kc2 (o o' : O2) (h : ME) (ρ : Rho) (x : D) (r : Option (D × Sto)) : Option (D × Sto) := r.bind fun y => kc3 o' h ρ y.1 (o x y.1 y.2)
def kc1 (o o' : O2) (g h : ME) (ρ : Rho) (r : Option (D × Sto)) : Option (D × Sto) := r.bind fun x => kc2 o o' h ρ x.1 (g ρ x.2)
theorem eChain_at : eChain o o' f g h ρ st = kc1 o o' g h ρ (f ρ st) := rfl
theorem kc1_some : kc1 o o' g h ρ (some (x, st)) = kc2 o o' h ρ x (g ρ st) := rfl
theorem kc2_some : kc2 o o' h ρ x (some (y, st)) = kc3 o' h ρ y (o x y st) := rfl
theorem kc3_true : kc3 o' h ρ y (some (.bl true, st)) = kc4 o' y (h ρ st) := rfl
theorem kc3_false : kc3 o' h ρ y (some (.bl false, st)) = some (.bl false, st) := rfl
theorem kc4_some : kc4 o' y (some (d, st)) = o' y d st := rfl
/-! truth -/
def kTru2 (st : Sto) (r : Option Bool) : Option (Bool × Sto) := r.map fun b => (b, st)
def kTru (r : Option (D × Sto)) : Option (Bool × Sto) := r.bind fun p => kTru2 p.2 (truD p.2 p.1)
theorem tOf_at : tOf f ρ st = kTru (f ρ st) := rfl
theorem kTru_some : kTru (some (d, st)) = kTru2 st (truD st d) := rfl
theorem kTru2_some : kTru2 st (some b) = some (b, st) := rfl
theorem truD_non : truD st .non = some false := rfl
theorem truD_bl : truD st (.bl b) = some b := rfl
theorem truD_int {k : Int} : truD st (.int k) = some (k != 0) := rfl
theorem truD_tup : truD st (.tup ds) = some (!ds.isEmpty) := rfl
def kAnd (t : MT) (ρ : Rho) (r : Option (Bool × Sto)) : Option (Bool × Sto) := r.bind fun p => if p.1 = true then t ρ p.2 else some (false, p.2)
def kOr (t : MT) (ρ : Rho) (r : Option (Bool × Sto)) : Option (Bool × Sto) := r.bind fun p => if p.1 = true then some (true, p.2) else t ρ p.2
def kNot (r : Option (Bool × Sto)) : Option (Bool × Sto) := r.map fun p => (!p.1, p.2)
theorem tAnd_at : tAnd t t' ρ st = kAnd t' ρ (t ρ st) := rfl
theorem kAnd_true : kAnd t ρ (some (true, st)) = t ρ st := rfl
theorem kAnd_false : kAnd t ρ (some (false, st)) = some (false, st) := rfl
theorem tOr_at : tOr t t' ρ st = kOr t' ρ (t ρ st) := rfl
theorem kOr_true : kOr t ρ (some (true, st)) = some (true, st) := rfl
theorem kOr_false : kOr t ρ (some (false, st)) = t ρ st := rfl
theorem tNot_at : tNot t ρ st = kNot (t ρ st) := rfl
theorem kNot_some : kNot (some (b, st)) = some (!b, st) := rfl
theorem tYes_at : tYesM ρ st = some (true, st) := rfl
def keAnd2 (g : ME) (ρ : Rho) (d : D) (st : Sto) (r : Option Bool) : Option (D × Sto) := r.bind fun k => if k = true then g ρ st else some (d, st)
def keAnd (g : ME) (ρ : Rho) (r : Option (D × Sto)) : Option (D × Sto) := r.bind fun p => keAnd2 g ρ p.1 p.2 (truD p.2 p.1)
theorem eAnd_at : eAnd f g ρ st = keAnd g ρ (f ρ st) := rfl
theorem keAnd_some : keAnd g ρ (some (d, st)) = keAnd2 g ρ d st (truD st d) := rfl
theorem keAnd2_true : keAnd2 g ρ d st (some true) = g ρ st := rfl
theorem keAnd2_false : keAnd2 g ρ d st (some false) = some (d, st) := rfl
def keOr2 (g : ME) (ρ : Rho) (d : D) (st : Sto) (r : Option Bool) : Option (D × Sto) := r.bind fun k => if k = true then some (d, st) else g ρ st
def keOr (g : ME) (ρ : Rho) (r : Option (D × Sto)) : Option (D × Sto) := r.bind fun p => keOr2 g ρ p.1 p.2 (truD p.2 p.1)
theorem eOr_at : eOr f g ρ st = keOr g ρ (f ρ st) := rfl
theorem keOr_some : keOr g ρ (some (d, st)) = keOr2 g ρ d st (truD st d) := rfl
theorem keOr2_true : keOr2 g ρ d st (some true) = some (d, st) := rfl
theorem keOr2_false : keOr2 g ρ d st (some false) = g ρ st := rfl
def keNot2 (st : Sto) (r : Option Bool) : Option (D × Sto) := r.map fun k => (.bl (!k), st)
def keNot (r : Option (D × Sto)) : Option (D × Sto) := r.bind fun p => keNot2 p.2 (truD p.2 p.1)
theorem eNot_at : eNot f ρ st = keNot (f ρ st) := rfl
theorem keNot_some : keNot (some (d, st)) = keNot2 st (truD st d) := rfl
theorem keNot2_some : keNot2 st (some b) = some (.bl (!b), st) := rfl
def keIf (f g : ME) (ρ : Rho) (r : Option (Bool × Sto)) : Option (D × Sto) := r.bind fun p => if p.1 = true then f ρ p.2 else g ρ p.2
theorem eIf_at : eIf t f g ρ st = keIf f g ρ (t ρ st) := rfl
theorem keIf_true : keIf f g ρ (some (true, st)) = f ρ st := rfl
theorem keIf_false : keIf f g ρ (some (false, st)) = g ρ st := rfl
/-! displays, calls -/
def ka2 (d : D) (r : Option (List D × Sto)) : Option (List D × Sto) := r.bind fun q => some (d :: q.1, q.2)
def ka1 (g : MA) (ρ : Rho) (r : Option (D × Sto)) : Option (List D × Sto) := r.bind fun p => ka2 p.1 (g ρ p.2)
theorem aNil_at : aNil ρ st = some ([], st) := rfl
theorem aCons_at : aCons f ga ρ st = ka1 ga ρ (f ρ st) := rfl
theorem ka1_some : ka1 ga ρ (some (d, st)) = ka2 d (ga ρ st) := rfl
theorem ka2_some : ka2 d (some (ds, st)) = some (d :: ds, st) := rfl
def kTup (r : Option (List D × Sto)) : Option (D × Sto) := r.bind fun p => if p.1.length ≤ LIM then some (.tup p.1, p.2) else none
theorem eTup_at : eTup ga ρ st = kTup (ga ρ st) := rfl
theorem kTup_some : kTup (some (ds, st)) = if ds.length ≤ LIM then some (.tup ds, st) else none := rfl
theorem kTup_0 : kTup (some ([], st)) = some (.tup [], st) := rfl
theorem kTup_1 {a : D} : kTup (some ([a], st)) = some (.tup [a], st) := rfl
theorem kTup_2 {a b : D} : kTup (some ([a, b], st)) = some (.tup [a, b], st) := rfl
theorem kTup_3 {a b c : D} : kTup (some ([a, b, c], st)) = some (.tup [a, b, c], st) := rfl
theorem kTup_4 {a b c d : D} : kTup (some ([a, b, c, d], st)) = some (.tup [a, b, c, d], st) := rfl
theorem kTup_5 {a b c d e : D} : kTup (some ([a, b, c, d, e], st)) = some (.tup [a, b, c, d, e], st) := rfl
theorem kTup_6 {a b c d e f : D} : kTup (some ([a, b, c, d, e, f], st)) = some (.tup [a, b, c, d, e, f], st) := rfl
def kLst (r : Option (List D × Sto)) : Option (D × Sto) := r.bind fun p => if p.1.length ≤ LIM then some (.ref p.2.length, p.2 ++ [.lst p.1]) else none
theorem eLst_at : eLst ga ρ st = kLst (ga ρ st) := rfl
theorem kLst_some : kLst (some (ds, st)) = if ds.length ≤ LIM then some (.ref st.length, st ++ [.lst ds]) else none := rfl
theorem kLst_0 : kLst (some ([], st)) = some (.ref st.length, st ++ [.lst []]) := rfl
theorem kLst_1 {a : D} : kLst (some ([a], st)) = some (.ref st.length, st ++ [.lst [a]]) := rfl
theorem kLst_2 {a b : D} : kLst (some ([a, b], st)) = some (.ref st.length, st ++ [.lst [a, b]]) := rfl
theorem kLst_3 {a b c : D} : kLst (some ([a, b, c], st)) = some (.ref st.length, st ++ [.lst [a, b, c]]) := rfl
theorem kLst_4 {a b c d : D} : kLst (some ([a, b, c, d], st)) = some (.ref st.length, st ++ [.lst [a, b, c, d]]) := rfl
theorem eDic0_at : eDic0 ρ st = some (.ref st.length, st ++ [.dic []]) := rfl
def kCall (F : FN) (r : Option (List D × Sto)) : Option (D × Sto) := r.bind fun p => F p.1 p.2
theorem eCall_at : eCall F ga ρ st = kCall F (ga ρ st) := rfl
theorem kCall_some : kCall F (some (ds, st)) = F ds st := rfl
theorem o1_at {o : D → Sto → Option D} : o1 o [d] st = kVal st (o d st) := rfl
def kIsi (ns : List Ty) (st : Sto) (r : Option Ty) : Option (D × Sto) := r.map fun t => (.bl (ns.any fun n => t.isa n), st)
theorem isiO_at {ns : List Ty} : isiO ns d st = kIsi ns st (tyD st d) := rfl
theorem kIsi_some {ns : List Ty} {t : Ty} : kIsi ns st (some t) = some (.bl (ns.any fun n => t.isa n), st) := rfl
theorem tyD_non : tyD st .non = some .non := rfl
theorem tyD_bl : tyD st (.bl b) = some .bl := rfl
theorem tyD_int {k : Int} : tyD st (.int k) = some .int := rfl
theorem tyD_str {k : List Nat} : tyD st (.str k) = some .str := rfl
theorem tyD_tup : tyD st (.tup ds) = some .tup := rfl
/-! methods -/
def kbm2 (o : D → FN) (d : D) (r : Option (List D × Sto)) : Option (D × Sto) := r.bind fun q => o d q.1 q.2
def kbm1 (chk : Sto → D → Bool) (o : D → FN) (ga : MA) (ρ : Rho) (r : Option (D × Sto)) : Option (D × Sto) := r.bind fun p => if chk p.2 p.1 = true then kbm2 o p.1 (ga ρ p.2) else none
theorem eBM_at {chk : Sto → D → Bool} {o : D → FN} : eBM chk o f ga ρ st = kbm1 chk o ga ρ (f ρ st) := rfl
theorem kbm1_some {chk : Sto → D → Bool} {o : D → FN} : kbm1 chk o ga ρ (some (d, st)) = if chk st d = true then kbm2 o d (ga ρ st) else none := rfl
theorem kbm2_some {o : D → FN} : kbm2 o d (some (ds, st)) = o d ds st := rfl
/-! slices -/
def ks4 (x : D) (lo : Option Int) (r : Option (Option Int × Sto)) : Option (D × Sto) := r.bind fun z => slO x lo z.1 z.2
def ks3 (q : MO) (ρ : Rho) (x : D) (r : Option (Option Int × Sto)) : Option (D × Sto) := r.bind fun y => ks4 x y.1 (q ρ y.2)
def ks2 (p q : MO) (ρ : Rho) (r : Option (D × Sto)) : Option (D × Sto) := r.bind fun x => ks3 q ρ x.1 (p ρ x.2)
theorem eSl_at {p q : MO} : eSl f p q ρ st = ks2 p q ρ (f ρ st) := rfl
theorem ks2_some {p q : MO} : ks2 p q ρ (some (x, st)) = ks3 q ρ x (p ρ st) := rfl
theorem ks3_some {q : MO} {lo : Option Int} : ks3 q ρ x (some (lo, st)) = ks4 x lo (q ρ st) := rfl
theorem ks4_some {lo hi : Option Int} : ks4 x lo (some (hi, st)) = slO x lo hi st := rfl
def kSome (r : Option (D × Sto)) : Option (Option Int × Sto) := r.bind fun p => match p.1 with
  | .int i => some (some i, p.2)
  | _ => none
theorem oNone_at : oNone ρ st = some (none, st) := rfl
theorem oSome_at : oSome f ρ st = kSome (f ρ st) := rfl
theorem kSome_int {k : Int} : kSome (some (.int k, st)) = some (some k, st) := rfl
theorem slO_str {k : List Nat} {lo hi : Option Int} : slO (.str k) lo hi st = if k.length ≤ LIM then some (.str (cutG k lo hi), st) else none := rfl
/-! statements -/
abbrev RS := Option (Fl × Rho × Sto)
def kSeq (v : MS) (r : RS) : RS := r.bind fun q => match q.1 with
  | .nx => v q.2.1 q.2.2
  | _ => some q
theorem sSeq_at : sSeq u v ρ st = kSeq v (u ρ st) := rfl
theorem kSeq_nx : kSeq v (some (.nx, ρ, st)) = v ρ st := rfl
theorem kSeq_rt : kSeq v (some (.rt d, ρ, st)) = some (.rt d, ρ, st) := rfl
theorem kSeq_bk : kSeq v (some (.bk, ρ, st)) = some (.bk, ρ, st) := rfl
theorem kSeq_ct : kSeq v (some (.ct, ρ, st)) = some (.ct, ρ, st) := rfl
theorem sNext_at : sNext ρ st = some (.nx, ρ, st) := rfl
theorem sBreak_at : sBreak ρ st = some (.bk, ρ, st) := rfl
theorem sCont_at : sCont ρ st = some (.ct, ρ, st) := rfl
theorem sRetN_at : sRetN ρ st = some (.rt .non, ρ, st) := rfl
def kRet (ρ : Rho) (r : Option (D × Sto)) : RS := r.map fun p => (.rt p.1, ρ, p.2)
theorem sRet_at : sRet f ρ st = kRet ρ (f ρ st) := rfl
theorem kRet_some : kRet ρ (some (d, st)) = some (.rt d, ρ, st) := rfl
def kExpr (ρ : Rho) (r : Option (D × Sto)) : RS := r.map fun p => (.nx, ρ, p.2)
theorem sExpr_at : sExpr f ρ st = kExpr ρ (f ρ st) := rfl
theorem kExpr_some : kExpr ρ (some (d, st)) = some (.nx, ρ, st) := rfl
def kSet (i : Nat) (ρ : Rho) (r : Option (D × Sto)) : RS := r.map fun p => (.nx, ρ.set i (some p.1), p.2)
theorem sSet_at : sSet i f ρ st = kSet i ρ (f ρ st) := rfl
theorem kSet_some : kSet i ρ (some (d, st)) = some (.nx, ρ.set i (some d), st) := rfl
def kIf (u v : MS) (ρ : Rho) (r : Option (Bool × Sto)) : RS := r.bind fun p => if p.1 = true then u ρ p.2 else v ρ p.2
theorem sIf_at : sIf t u v ρ st = kIf u v ρ (t ρ st) := rfl
theorem kIf_true : kIf u v ρ (some (true, st)) = u ρ st := rfl
theorem kIf_false : kIf u v ρ (some (false, st)) = v ρ st := rfl
def kPar2 (i j : Nat) (ρ : Rho) (r : Option (List D × Sto)) : RS := r.bind fun p => match p.1 with
  | [x, y] => some (.nx, (ρ.set i (some x)).set j (some y), p.2)
  | _ => none
theorem sPar2_k : sPar2 i j ga ρ st = kPar2 i j ρ (ga ρ st) := rfl
theorem kPar2_some : kPar2 i j ρ (some ([x, y], st)) = some (.nx, (ρ.set i (some x)).set j (some y), st) := rfl
def kPar3 (i j l : Nat) (ρ : Rho) (r : Option (List D × Sto)) : RS := r.bind fun p => match p.1 with
  | [x, y, z] => some (.nx, ((ρ.set i (some x)).set j (some y)).set l (some z), p.2)
  | _ => none
theorem sPar3_k : sPar3 i j l ga ρ st = kPar3 i j l ρ (ga ρ st) := rfl
theorem kPar3_some : kPar3 i j l ρ (some ([x, y, d], st)) = some (.nx, ((ρ.set i (some x)).set j (some y)).set l (some d), st) := rfl
def kAsg2 (st : Sto) (r : Option Rho) : RS := r.map fun ρ' => (.nx, ρ', st)
def kAsg (m : MG) (ρ : Rho) (r : Option (D × Sto)) : RS := r.bind fun p => kAsg2 p.2 (m p.1 ρ)
theorem sAsg_at : sAsg f m ρ st = kAsg m ρ (f ρ st) := rfl
theorem kAsg_some : kAsg m ρ (some (d, st)) = kAsg2 st (m d ρ) := rfl
theorem kAsg2_some : kAsg2 st (some ρ) = some (.nx, ρ, st) := rfl
theorem mName_at : mName i d ρ = some (ρ.set i (some d)) := rfl
theorem mTup_at {n : Nat} {w : List D → Rho → Option Rho} : mTup n w (.tup ds) ρ = if ds.length = n then w ds ρ else none := rfl
theorem mTup_2 {a b : D} {w : List D → Rho → Option Rho} : mTup 2 w (.tup [a, b]) ρ = w [a, b] ρ := rfl
theorem mTup_3 {a b c : D} {w : List D → Rho → Option Rho} : mTup 3 w (.tup [a, b, c]) ρ = w [a, b, c] ρ := rfl
def kmCons (n : List D → Rho → Option Rho) (ds : List D) (r : Option Rho) : Option Rho := r.bind fun ρ1 => n ds ρ1
theorem mCons_at {w : List D → Rho → Option Rho} : mCons m w (d :: ds) ρ = kmCons w ds (m d ρ) := rfl
theorem kmCons_some {w : List D → Rho → Option Rho} : kmCons w ds (some ρ) = w ds ρ := rfl
theorem mNil_at : mNil [] ρ = some ρ := rfl
def kp4 (ρ : Rho) (r : Option Sto) : RS := r.map fun st' => (.nx, ρ, st')
def kp3 (ρ : Rho) (d x : D) (r : Option (D × Sto)) : RS := r.bind fun y => kp4 ρ (setO x y.1 d y.2)
def kp2 (fi : ME) (ρ : Rho) (d : D) (r : Option (D × Sto)) : RS := r.bind fun x => kp3 ρ d x.1 (fi ρ x.2)
def kp1 (fo fi : ME) (ρ : Rho) (r : Option (D × Sto)) : RS := r.bind fun p => kp2 fi ρ p.1 (fo ρ p.2)
theorem sPut_at {fo fi : ME} : sPut fo fi f ρ st = kp1 fo fi ρ (f ρ st) := rfl
theorem kp1_some {fo fi : ME} : kp1 fo fi ρ (some (d, st)) = kp2 fi ρ d (fo ρ st) := rfl
theorem kp2_some {fi : ME} : kp2 fi ρ d (some (x, st)) = kp3 ρ d x (fi ρ st) := rfl
theorem kp3_some : kp3 ρ d x (some (y, st)) = kp4 ρ (setO x y d st) := rfl
theorem kp4_some : kp4 ρ (some st) = some (.nx, ρ, st) := rfl
/-! bodies -/
def kFn (r : RS) : Option (D × Sto) := match r with
  | some (.rt d, _, st') => some (d, st')
  | some (.nx, _, st') => some (.non, st')
  | _ => none
theorem kFn_rt : kFn (some (.rt d, ρ, st)) = some (d, st) := rfl
theorem kFn_nx : kFn (some (.nx, ρ, st)) = some (.non, st) := rfl
theorem mkFn_0 : mkFn N 0 u [] st = kFn (u (List.replicate N none) st) := rfl
theorem mkFn_1 {a : D} : mkFn N 1 u [a] st = kFn (u (some a :: List.replicate (N - 1) none) st) := rfl
theorem mkFn_2 {a b : D} : mkFn N 2 u [a, b] st = kFn (u (some a :: some b :: List.replicate (N - 2) none) st) := rfl
theorem mkFn_3 {a b c : D} : mkFn N 3 u [a, b, c] st = kFn (u (some a :: some b :: some c :: List.replicate (N - 3) none) st) := rfl
theorem mkFn_4 {a b c d : D} : mkFn N 4 u [a, b, c, d] st = kFn (u (some a :: some b :: some c :: some d :: List.replicate (N - 4) none) st) := rfl
theorem mkFn_5 {a b c d e : D} : mkFn N 5 u [a, b, c, d, e] st = kFn (u (some a :: some b :: some c :: some d :: some e :: List.replicate (N - 5) none) st) := rfl
/-! loops -/
theorem sWhile_at : sWhile t u ρ st = loopW t u FUEL ρ st := rfl
end
end MP

set_option maxRecDepth 100000
/-! MP C: rows of turns, reckoned. -/
namespace MP
open PySem PySem.Spec L2
theorem at_end {α : Type} (xs : List α) (y : α) (r : List α) : (xs ++ y :: r)[xs.length]? = some y := by simp
theorem set_end {α : Type} (xs : List α) (y z : α) (r : List α) : (xs ++ y :: r).set xs.length z = xs ++ z :: r := by simp
theorem myL_end (st : Sto) (acc : List D) (g : Sto) : myL (st ++ .lst acc :: g) st.length = some acc := by
  unfold myL
  rw [at_end]
theorem rdL_end (st : Sto) (acc : List D) (g : Sto) : rdL (st ++ .lst acc :: g) st.length = some acc := by
  unfold rdL
  rw [at_end]
theorem loopC_grow {m : MG} {f : ME} {ρ0 : Rho} {st : Sto} {v : D → D} : ∀ (ds : List D) (acc : List D) (g : Sto),
    (∀ d ∈ ds, ∀ acc g, ∃ ρ1 g', m d ρ0 = some ρ1 ∧ f ρ1 (st ++ .lst acc :: g) = some (v d, st ++ .lst acc :: (g ++ g'))) →
    acc.length + ds.length ≤ LIM → ∃ g', loopC (fun _ => True) m tYesM f ρ0 st.length ds (st ++ .lst acc :: g) = some (st ++ .lst (acc ++ ds.map v) :: g')
  | [], acc, g, _, _ => ⟨g, by simp [loopC]⟩
  | d :: r, acc, g, h, hl => by
    rw [List.length_cons] at hl
    obtain ⟨ρ1, g1, e1, e2⟩ := h d (.head _) acc g
    obtain ⟨g2, e3⟩ := loopC_grow r (acc ++ [v d]) (g ++ g1) (fun x hx => h x (.tail _ hx)) (by rw [List.length_append, List.length_singleton]; omega)
    refine ⟨g2, ?_⟩
    unfold loopC
    rw [if_pos trivial, e1, Option.bind_some]
    show (Option.bind (some (true, st ++ .lst acc :: g)) _) = _
    rw [Option.bind_some]
    simp only [if_true]
    rw [e2, Option.bind_some]
    simp only [myL_end]
    rw [if_pos (by omega), set_end, e3]
    simp [List.append_assoc]
theorem eLc_grow {fi : MI} {m : MG} {f : ME} {ρ : Rho} {vs : List Nat} {st : Sto} {v : D → D} {ds : List D} (hi : fi ρ st = some ((ds, fun _ => True), st)) (hl : ds.length ≤ LIM)
    (h : ∀ d ∈ ds, ∀ acc g, ∃ ρ1 g', m d (wipeD ρ vs) = some ρ1 ∧ f ρ1 (st ++ .lst acc :: g) = some (v d, st ++ .lst acc :: (g ++ g'))) :
    ∃ g', eLc vs fi m tYesM f ρ st = some (.ref st.length, st ++ .lst (ds.map v) :: g') := by
  obtain ⟨g, e⟩ := loopC_grow ds [] [] h (by simpa using hl)
  refine ⟨g, ?_⟩
  unfold eLc
  rw [hi, Option.bind_some]
  show Option.map _ (loopC (fun _ => True) m tYesM f (wipeD ρ vs) st.length ds (st ++ [.lst []])) = _
  rw [e]
  rfl
/-- the same, the maker leaves no trace -/
theorem loopC_calm {m : MG} {f : ME} {ρ0 : Rho} {st : Sto} {v : D → D} : ∀ (ds : List D) (acc : List D),
    (∀ d ∈ ds, ∀ acc, ∃ ρ1, m d ρ0 = some ρ1 ∧ f ρ1 (st ++ [.lst acc]) = some (v d, st ++ [.lst acc])) →
    acc.length + ds.length ≤ LIM → loopC (fun _ => True) m tYesM f ρ0 st.length ds (st ++ [.lst acc]) = some (st ++ [.lst (acc ++ ds.map v)])
  | [], acc, _, _ => by simp [loopC]
  | d :: r, acc, h, hl => by
    rw [List.length_cons] at hl
    obtain ⟨ρ1, e1, e2⟩ := h d (.head _) acc
    have e3 := loopC_calm r (acc ++ [v d]) (fun x hx => h x (.tail _ hx)) (by rw [List.length_append, List.length_singleton]; omega)
    unfold loopC
    rw [if_pos trivial, e1, Option.bind_some]
    show (Option.bind (some (true, st ++ [.lst acc])) _) = _
    rw [Option.bind_some]
    simp only [if_true]
    rw [e2, Option.bind_some]
    simp only [myL_end]
    rw [if_pos (by omega), set_end, e3]
    simp [List.append_assoc]
theorem eLc_calm {fi : MI} {m : MG} {f : ME} {ρ : Rho} {vs : List Nat} {st : Sto} {v : D → D} {ds : List D} (hi : fi ρ st = some ((ds, fun _ => True), st)) (hl : ds.length ≤ LIM)
    (h : ∀ d ∈ ds, ∀ acc, ∃ ρ1, m d (wipeD ρ vs) = some ρ1 ∧ f ρ1 (st ++ [.lst acc]) = some (v d, st ++ [.lst acc])) :
    eLc vs fi m tYesM f ρ st = some (.ref st.length, st ++ [.lst (ds.map v)]) := by
  have e := loopC_calm ds [] h (by simpa using hl)
  unfold eLc
  rw [hi, Option.bind_some]
  show Option.map _ (loopC (fun _ => True) m tYesM f (wipeD ρ vs) st.length ds (st ++ [.lst []])) = _
  rw [e]
  rfl
def kR1 (r : Option (List D × Sto)) : Option ((List D × (Sto → Prop)) × Sto) := r.bind fun p => match p.1 with
  | [.int n] => if -(LIM : Int) ≤ n ∧ n ≤ (LIM : Nat) then some ((rngD 0 n.toNat, fun _ => True), p.2) else none
  | _ => none
theorem iR1_at {g : MA} {ρ : Rho} {st : Sto} : iR1 g ρ st = kR1 (g ρ st) := rfl
theorem kR1_some {n : Nat} {st : Sto} (h : n ≤ LIM) : kR1 (some ([.int (n : Int)], st)) = some ((rngD 0 n, fun _ => True), st) := by
  unfold kR1
  rw [Option.bind_some]
  simp only
  rw [if_pos ⟨by omega, by omega⟩, Int.toNat_natCast]
theorem rngD_length (lo : Int) (n : Nat) : (rngD lo n).length = n := by simp [rngD]
theorem rngD_mem {n : Nat} {d : D} (h : d ∈ rngD 0 n) : ∃ k, k < n ∧ d = .int (k : Nat) := by
  unfold rngD at h
  obtain ⟨k, h1, h2⟩ := List.mem_map.mp h
  exact ⟨k, List.mem_range.mp h1, by rw [← h2, Int.zero_add]⟩
theorem bls_map (ds : List D) (b : D → Bool) : blsO (ds.map fun d => D.bl (b d)) = some (ds.map b) := by
  induction ds with
  | nil => rfl
  | cons d r ih =>
    show (blsO (r.map fun d => D.bl (b d))).map _ = _
    rw [ih]
    rfl
theorem allO_end (st : Sto) (ds : List D) (b : D → Bool) (g : Sto) : allO (.ref st.length) (st ++ .lst (ds.map fun d => D.bl (b d)) :: g) = some (.bl ((ds.map b).all id)) := by
  show Option.map _ ((rdL (st ++ .lst (ds.map fun d => D.bl (b d)) :: g) st.length).bind blsO) = _
  rw [rdL_end, Option.bind_some, bls_map]
  rfl
theorem lenO_tup (st : Sto) (ds : List D) : lenO (.tup ds) st = some (.int ds.length) := rfl
/-! rows of for -/
noncomputable def kF2 (m : MG) (u : MS) (r : List D) (q : RS) : RS := q.bind fun q => match q.1 with
  | .nx => loopF (fun _ => True) m u r q.2.1 q.2.2
  | .ct => loopF (fun _ => True) m u r q.2.1 q.2.2
  | .bk => some (.nx, q.2.1, q.2.2)
  | .rt d => some (.rt d, q.2.1, q.2.2)
noncomputable def kF1 (m : MG) (u : MS) (r : List D) (st : Sto) (q : Option Rho) : RS := q.bind fun ρ1 => kF2 m u r (u ρ1 st)
section
variable {m : MG} {u : MS} {r : List D} {st : Sto} {ρ : Rho} {d : D}
theorem loopF_nil : loopF (fun _ => True) m u [] ρ st = some (.nx, ρ, st) := by
  unfold loopF
  rw [if_pos trivial]
theorem loopF_cons : loopF (fun _ => True) m u (d :: r) ρ st = kF1 m u r st (m d ρ) := by
  conv => lhs; unfold loopF
  rw [if_pos trivial]
  rfl
theorem kF1_some : kF1 m u r st (some ρ) = kF2 m u r (u ρ st) := rfl
theorem kF2_nx : kF2 m u r (some (.nx, ρ, st)) = loopF (fun _ => True) m u r ρ st := rfl
theorem kF2_ct : kF2 m u r (some (.ct, ρ, st)) = loopF (fun _ => True) m u r ρ st := rfl
theorem kF2_bk : kF2 m u r (some (.bk, ρ, st)) = some (.nx, ρ, st) := rfl
theorem kF2_rt : kF2 m u r (some (.rt d, ρ, st)) = some (.rt d, ρ, st) := rfl
theorem sFor_run {fi : MI} {ds : List D} {st' : Sto} (h : fi ρ st = some ((ds, fun _ => True), st')) : sFor fi m u ρ st = loopF (fun _ => True) m u ds ρ st' := by
  unfold sFor
  rw [h]
  rfl
end
/-- data of a small depth, without places -/
def PD : Nat → D → Prop
  | 0, _ => False
  | n + 1, .tup ds => ds.length ≤ LIM ∧ ∀ d ∈ ds, PD n d
  | _ + 1, .ref _ => False
  | _ + 1, _ => True
theorem eqO_int (st : Sto) (l m : Int) : eqO st (.int l) (.int m) = some (l == m) := by
  simp [eqO, DEEP, toP, PyData.eqv]
theorem eqO_bl (st : Sto) (l m : Bool) : eqO st (.bl l) (.bl m) = some (l == m) := by
  simp [eqO, DEEP, toP, PyData.eqv]
theorem eqO_str_self (st : Sto) (l : List Nat) : eqO st (.str l) (.str l) = some true := by
  simp [eqO, DEEP, toP, PyData.eqv]
theorem eqO_non (st : Sto) : eqO st .non .non = some true := by
  simp [eqO, DEEP, toP, PyData.eqv]
end MP

set_option maxRecDepth 100000
/-! MP D: stores, lists, texts, reckoned. -/
namespace MP
open PySem PySem.Spec L2
section
variable {st : Sto} {ρ : Rho} {d : D}
theorem kLst_6 {a b c d e f : D} : kLst (some ([a, b, c, d, e, f], st)) = some (.ref st.length, st ++ [.lst [a, b, c, d, e, f]]) := rfl
theorem kLst_7 {a b c d e f g : D} : kLst (some ([a, b, c, d, e, f, g], st)) = some (.ref st.length, st ++ [.lst [a, b, c, d, e, f, g]]) := rfl
theorem kLst_8 {a b c d e f g h : D} : kLst (some ([a, b, c, d, e, f, g, h], st)) = some (.ref st.length, st ++ [.lst [a, b, c, d, e, f, g, h]]) := rfl
theorem kLst_5 {a b c d e : D} : kLst (some ([a, b, c, d, e], st)) = some (.ref st.length, st ++ [.lst [a, b, c, d, e]]) := rfl
end
theorem atI_in {α : Type} {xs : List α} {i : Int} (h0 : 0 ≤ i) (h1 : i < xs.length) : ∃ x ∈ xs, atI xs i = some x := by
  obtain ⟨k, rfl⟩ := Int.eq_ofNat_of_zero_le h0
  have hk : k < xs.length := by omega
  exact ⟨xs[k], List.getElem_mem hk, atI_nat (List.getElem?_eq_getElem hk)⟩
theorem ixO_lst {st : Sto} {k : Nat} {ds : List D} {i : Int} (h : rdL st k = some ds) : ixO (.ref k) (.int i) st = atI ds i := by
  simp only [ixO, h]
theorem lenO_lst {st : Sto} {k : Nat} {ds : List D} (h : rdL st k = some ds) : lenO (.ref k) st = some (.int ds.length) := by
  simp only [lenO, h]
theorem ixO_end {st g : Sto} {ds : List D} {i : Int} : ixO (.ref st.length) (.int i) (st ++ .lst ds :: g) = atI ds i := ixO_lst (rdL_end st ds g)
theorem myL_rdL {st : Sto} {k : Nat} {ds : List D} (h : myL st k = some ds) : rdL st k = some ds := by
  unfold MP.myL at h
  unfold MP.rdL
  split at h
  · rename_i e
    rw [e]
    exact h
  · cases h
theorem rdL_lt {st : Sto} {k : Nat} {ds : List D} (h : rdL st k = some ds) : k < st.length := by
  unfold MP.rdL at h
  by_cases hk : k < st.length
  · exact hk
  · rw [List.getElem?_eq_none (by omega)] at h
    cases h
theorem rdL_grow {st g : Sto} {k : Nat} {ds : List D} (h : rdL st k = some ds) : rdL (st ++ g) k = some ds := by
  have := rdL_lt h
  unfold MP.rdL at h ⊢
  rw [List.getElem?_append_left this]
  exact h
theorem myL_grow {st g : Sto} {k : Nat} {ds : List D} (h : myL st k = some ds) : myL (st ++ g) k = some ds := by
  have := rdL_lt (myL_rdL h)
  unfold MP.myL at h ⊢
  rw [List.getElem?_append_left this]
  exact h
theorem rdL_set_ne {st : Sto} {j k : Nat} {o : Ob} (h : j ≠ k) : rdL (st.set j o) k = rdL st k := by
  unfold MP.rdL
  rw [List.getElem?_set_ne h]
theorem myL_set_ne {st : Sto} {j k : Nat} {o : Ob} (h : j ≠ k) : myL (st.set j o) k = myL st k := by
  unfold MP.myL
  rw [List.getElem?_set_ne h]
theorem myL_set {st : Sto} {j : Nat} {ds : List D} (h : j < st.length) : myL (st.set j (.lst ds)) j = some ds := by
  unfold MP.myL
  rw [List.getElem?_set_self h]
theorem setO_lst {st : Sto} {k i : Nat} {ds : List D} {d : D} (h : myL st k = some ds) (hi : i < ds.length) : setO (.ref k) (.int (i : Nat)) d st = some (st.set k (.lst (ds.set i d))) := by
  have e : ixN ds.length (i : Int) = some i := by
    unfold ixN
    rw [if_pos (by omega), if_pos (by omega), Int.toNat_natCast]
  simp only [setO, h, e, Option.map_some]
theorem strs_map (ls : List (List Nat)) : strsO (ls.map D.str) = some ls := by
  induction ls with
  | nil => rfl
  | cons d r ih =>
    show (strsO (r.map D.str)).map _ = _
    rw [ih]
    rfl
theorem joinD_nil (ls : List (List Nat)) : joinD [] ls = ls.flatten := by
  induction ls with
  | nil => rfl
  | cons p r ih =>
    cases r with
    | nil => simp [joinD, TL.joinL]
    | cons q r =>
      show p ++ ([] ++ TL.joinL [] (q :: r)) = _
      have : TL.joinL [] (q :: r) = (q :: r).flatten := ih
      rw [this]
      rfl
theorem join_end {st g : Sto} {s : List Nat} {ls : List (List Nat)} (h : (ls.map List.length).sum + ls.length * s.length ≤ 16000000) : joinM (.str s) [.ref st.length] (st ++ .lst (ls.map D.str) :: g) = some (.str (joinD s ls), st ++ .lst (ls.map D.str) :: g) := by
  show ((rdL (st ++ .lst (ls.map D.str) :: g) st.length).bind strsO).bind _ = _
  rw [rdL_end, Option.bind_some, strs_map, Option.bind_some, if_pos h]
theorem cutG_len {α : Type} (xs : List α) (lo hi : Option Int) : (cutG xs lo hi).length ≤ xs.length := by
  unfold cutG
  rw [List.length_take, List.length_drop]
  omega
theorem atI_map {α β : Type} (xs : List α) (f : α → β) (i : Int) : atI (xs.map f) i = (atI xs i).map f := by
  unfold L2.atI
  rw [List.length_map]
  cases L2.ixN xs.length i with
  | none => rfl
  | some j => simp
theorem ixO_str {st : Sto} {l : List Nat} {i : Int} (h : l.length ≤ LIM) : ixO (.str l) (.int i) st = (atI l i).map fun c => .str [c] := by
  simp only [ixO, h, if_true]
end MP

set_option maxRecDepth 100000
set_option maxHeartbeats 4000000
/-! the text of law_k10_signs: its defs, their mirrors, and that they do what these tell (printed by gen.py) -/
namespace Text
open PySem PySem.Spec PyProof.Rows L2 MP
def topS (i : Nat) : Stmt := PySem.Challenge.pw_grassnake_k10_signs.main.body.getD i (.Pass ⟨0, 0, 0, 0⟩)
abbrev s_truth_answer : Stmt := topS 3
abbrev N_truth_answer : List Str := ["b"]
theorem sc_truth_answer : FnScope N_truth_answer ["b"] (defScope s_truth_answer) := ⟨rfl, rfl, rfl, by decide +kernel, rfl, by decide +kernel, by decide +kernel⟩
abbrev s_number_answer : Stmt := topS 4
abbrev N_number_answer : List Str := ["n"]
theorem sc_number_answer : FnScope N_number_answer ["n"] (defScope s_number_answer) := ⟨rfl, rfl, rfl, by decide +kernel, rfl, by decide +kernel, by decide +kernel⟩
abbrev s_compared : Stmt := topS 5
abbrev N_compared : List Str := ["sign", "one", "other"]
theorem sc_compared : FnScope N_compared ["sign", "one", "other"] (defScope s_compared) := ⟨rfl, rfl, rfl, by decide +kernel, rfl, by decide +kernel, by decide +kernel⟩
abbrev s_two_numbers : Stmt := topS 6
abbrev N_two_numbers : List Str := ["sign", "one", "other"]
theorem sc_two_numbers : FnScope N_two_numbers ["sign", "one", "other"] (defScope s_two_numbers) := ⟨rfl, rfl, rfl, by decide +kernel, rfl, by decide +kernel, by decide +kernel⟩
abbrev s_two_texts : Stmt := topS 7
abbrev N_two_texts : List Str := ["one", "other"]
theorem sc_two_texts : FnScope N_two_texts ["one", "other"] (defScope s_two_texts) := ⟨rfl, rfl, rfl, by decide +kernel, rfl, by decide +kernel, by decide +kernel⟩
abbrev s_two : Stmt := topS 8
abbrev N_two : List Str := ["sign", "a", "b"]
theorem sc_two : FnScope N_two ["sign", "a", "b"] (defScope s_two) := ⟨rfl, rfl, rfl, by decide +kernel, rfl, by decide +kernel, by decide +kernel⟩
abbrev s_minus : Stmt := topS 9
abbrev N_minus : List Str := ["a"]
theorem sc_minus : FnScope N_minus ["a"] (defScope s_minus) := ⟨rfl, rfl, rfl, by decide +kernel, rfl, by decide +kernel, by decide +kernel⟩
abbrev s_is_wanting : Stmt := topS 10
abbrev N_is_wanting : List Str := ["a"]
theorem sc_is_wanting : FnScope N_is_wanting ["a"] (defScope s_is_wanting) := ⟨rfl, rfl, rfl, by decide +kernel, rfl, by decide +kernel, by decide +kernel⟩
abbrev s_l_cell_at : Stmt := topS 12
abbrev N_l_cell_at : List Str := ["_law_script", "_law_k"]
theorem sc_l_cell_at : FnScope N_l_cell_at ["_law_script", "_law_k"] (defScope s_l_cell_at) := ⟨rfl, rfl, rfl, by decide +kernel, rfl, by decide +kernel, by decide +kernel⟩
abbrev s_l_cell : Stmt := topS 13
abbrev N_l_cell : List Str := ["_law_cells", "_law_spot", "_law_k", "_law_base"]
theorem sc_l_cell : FnScope N_l_cell ["_law_cells", "_law_spot"] (defScope s_l_cell) := ⟨rfl, rfl, rfl, by decide +kernel, rfl, by decide +kernel, by decide +kernel⟩
abbrev s_l_same : Stmt := topS 14
abbrev N_l_same : List Str := ["_law_found", "_law_due_here", "_law_k"]
theorem sc_l_same : FnScope N_l_same ["_law_found", "_law_due_here"] (defScope s_l_same) := ⟨rfl, rfl, rfl, by decide +kernel, rfl, by decide +kernel, by decide +kernel⟩
abbrev s_l_figure : Stmt := topS 15
abbrev N_l_figure : List Str := ["_law_n", "_law_edge", "_law_great"]
theorem sc_l_figure : FnScope N_l_figure ["_law_n"] (defScope s_l_figure) := ⟨rfl, rfl, rfl, by decide +kernel, rfl, by decide +kernel, by decide +kernel⟩
abbrev s_l_text : Stmt := topS 16
abbrev N_l_text : List Str := ["_law_n", "_law_marks", "_law_size", "_law_at", "_law_word", "_law_k"]
theorem sc_l_text : FnScope N_l_text ["_law_n"] (defScope s_l_text) := ⟨rfl, rfl, rfl, by decide +kernel, rfl, by decide +kernel, by decide +kernel⟩
abbrev s_l_value : Stmt := topS 17
abbrev N_l_value : List Str := ["_law_n", "_law_kind"]
theorem sc_l_value : FnScope N_l_value ["_law_n", "_law_kind"] (defScope s_l_value) := ⟨rfl, rfl, rfl, by decide +kernel, rfl, by decide +kernel, by decide +kernel⟩
abbrev s_l_divided : Stmt := topS 18
abbrev N_l_divided : List Str := ["_law_one", "_law_other", "_law_many"]
theorem sc_l_divided : FnScope N_l_divided ["_law_one", "_law_other"] (defScope s_l_divided) := ⟨rfl, rfl, rfl, by decide +kernel, rfl, by decide +kernel, by decide +kernel⟩
abbrev s_l_bits : Stmt := topS 19
abbrev N_l_bits : List Str := ["_law_sign", "_law_one", "_law_other", "_law_found", "_law_worth", "_law_both"]
theorem sc_l_bits : FnScope N_l_bits ["_law_sign", "_law_one", "_law_other"] (defScope s_l_bits) := ⟨rfl, rfl, rfl, by decide +kernel, rfl, by decide +kernel, by decide +kernel⟩
abbrev s_l_number : Stmt := topS 20
abbrev N_l_number : List Str := ["_law_n"]
theorem sc_l_number : FnScope N_l_number ["_law_n"] (defScope s_l_number) := ⟨rfl, rfl, rfl, by decide +kernel, rfl, by decide +kernel, by decide +kernel⟩
abbrev s_l_numbers : Stmt := topS 21
abbrev N_l_numbers : List Str := ["_law_sign", "_law_one", "_law_other"]
theorem sc_l_numbers : FnScope N_l_numbers ["_law_sign", "_law_one", "_law_other"] (defScope s_l_numbers) := ⟨rfl, rfl, rfl, by decide +kernel, rfl, by decide +kernel, by decide +kernel⟩
abbrev s_l_due : Stmt := topS 22
abbrev N_l_due : List Str := ["_law_sign", "_law_a", "_law_b", "_law_alike", "_law_kinds", "_law_both", "_law_less", "_law_told"]
theorem sc_l_due : FnScope N_l_due ["_law_sign", "_law_a", "_law_b"] (defScope s_l_due) := ⟨rfl, rfl, rfl, by decide +kernel, rfl, by decide +kernel, by decide +kernel⟩
abbrev s_l_right : Stmt := topS 23
abbrev N_l_right : List Str := ["_law_a", "_law_b", "_law_sign", "_law_due_here", "_law_wanting"]
theorem sc_l_right : FnScope N_l_right ["_law_a", "_law_b"] (defScope s_l_right) := ⟨rfl, rfl, rfl, by decide +kernel, rfl, by decide +kernel, by decide +kernel⟩
abbrev s_law : Stmt := topS 24
abbrev N_law : List Str := ["_law_script", "_law_cells", "_law_spot", "_law_turn", "_law_n", "_law_kind", "_law_a", "_law_b", "_law_at", "_law_one"]
theorem sc_law : FnScope N_law ["_law_script"] (defScope s_law) := ⟨rfl, rfl, rfl, by decide +kernel, rfl, by decide +kernel, by decide +kernel⟩
/-- what the top has written -/
structure Txt (K : PySem.W.Frag) (mg : Str → Option Value) : Prop where
  b_abs : mg "abs" = none
  b_all : mg "all" = none
  b_bool : mg "bool" = none
  b_int : mg "int" = none
  b_isinstance : mg "isinstance" = none
  b_len : mg "len" = none
  b_list : mg "list" = none
  b_range : mg "range" = none
  b_tuple : mg "tuple" = none
  c_GREATEST : ∃ t, mg "GREATEST" = some (.int (10 ^ 30) t)
  c_MOST_SIGNS : ∃ t, mg "MOST_SIGNS" = some (.int 200 t)
  f_truth_answer : FnAt K mg "truth_answer" s_truth_answer ["b"]
  f_number_answer : FnAt K mg "number_answer" s_number_answer ["n"]
  f_compared : FnAt K mg "compared" s_compared ["sign", "one", "other"]
  f_two_numbers : FnAt K mg "two_numbers" s_two_numbers ["sign", "one", "other"]
  f_two_texts : FnAt K mg "two_texts" s_two_texts ["one", "other"]
  f_two : FnAt K mg "two" s_two ["sign", "a", "b"]
  f_minus : FnAt K mg "minus" s_minus ["a"]
  f_is_wanting : FnAt K mg "is_wanting" s_is_wanting ["a"]
  f_l_cell_at : FnAt K mg "_law_cell_at" s_l_cell_at ["_law_script", "_law_k"]
  f_l_cell : FnAt K mg "_law_cell" s_l_cell ["_law_cells", "_law_spot"]
  f_l_same : FnAt K mg "_law_same" s_l_same ["_law_found", "_law_due_here"]
  f_l_figure : FnAt K mg "_law_figure" s_l_figure ["_law_n"]
  f_l_text : FnAt K mg "_law_text" s_l_text ["_law_n"]
  f_l_value : FnAt K mg "_law_value" s_l_value ["_law_n", "_law_kind"]
  f_l_divided : FnAt K mg "_law_divided" s_l_divided ["_law_one", "_law_other"]
  f_l_bits : FnAt K mg "_law_bits" s_l_bits ["_law_sign", "_law_one", "_law_other"]
  f_l_number : FnAt K mg "_law_number" s_l_number ["_law_n"]
  f_l_numbers : FnAt K mg "_law_numbers" s_l_numbers ["_law_sign", "_law_one", "_law_other"]
  f_l_due : FnAt K mg "_law_due" s_l_due ["_law_sign", "_law_a", "_law_b"]
  f_l_right : FnAt K mg "_law_right" s_l_right ["_law_a", "_law_b"]
  f_law : FnAt K mg "law" s_law ["_law_script"]
section
variable {P : Program} {w : World} {K : PySem.W.Frag} {mg : Str → Option Value} {base : Heap} {cad : Cad}
/-! ### truth_answer -/
noncomputable def b_truth_answer : MS :=
    (sRet (eTup (aCons (eC (.str [118, 97, 108, 117, 101])) (aCons (eTup (aCons (eC (.str [116, 114, 117, 116, 104])) (aCons (eVar 0) aNil))) aNil))))
noncomputable def F_truth_answer : FN := mkFn 1 1 b_truth_answer
theorem fact_truth_answer (T : Txt K mg) : FnFact P w K mg base cad "truth_answer" 1 [] F_truth_answer := by
  exact fn_fact (k := 0) (N := N_truth_answer) T.f_truth_answer sc_truth_answer fun fa cdv A outer s H E hr => by
    have hu := hr.units
    exact
      (iss_one (is_ret (ie_tup (ia_cons (ie_str (by decide +kernel)) (ia_cons (ie_tup (ia_cons (ie_str (by decide +kernel)) (ia_cons (ie_var (pv 0)) ia_nil))) ia_nil)))))
/-! ### number_answer -/
noncomputable def b_number_answer : MS :=
    (sSeq (sIf (tNot (tOf (eChain kLe kLe (eBin opSub (eC (.int 0)) (eC (.int (10 ^ 30)))) (eVar 0) (eC (.int (10 ^ 30)))))) (sRet (eTup (aCons (eC (.str [102, 97, 117, 108, 116])) (aCons (eC (.str [71, 114, 101, 97, 116, 70, 97, 117, 108, 116])) aNil)))) sNext)
    (sRet (eTup (aCons (eC (.str [118, 97, 108, 117, 101])) (aCons (eTup (aCons (eC (.str [110, 117, 109, 98, 101, 114])) (aCons (eVar 0) aNil))) aNil)))))
noncomputable def F_number_answer : FN := mkFn 1 1 b_number_answer
theorem fact_number_answer (T : Txt K mg) : FnFact P w K mg base cad "number_answer" 1 [] F_number_answer := by
  obtain ⟨tk_GREATEST, c_GREATEST⟩ := T.c_GREATEST
  exact fn_fact (k := 0) (N := N_number_answer) T.f_number_answer sc_number_answer fun fa cdv A outer s H E hr => by
    have hu := hr.units
    exact
      (iss_cons (is_if (it_not (it_chain cm_le cm_le (ie_sub ie_int (ie_gint rfl c_GREATEST)) (ie_var (pv 0)) (ie_gint rfl c_GREATEST) bl_ord)) (iss_one (is_ret (ie_tup (ia_cons (ie_str (by decide +kernel)) (ia_cons (ie_str (by decide +kernel)) ia_nil))))) iss_nil)
      (iss_one (is_ret (ie_tup (ia_cons (ie_str (by decide +kernel)) (ia_cons (ie_tup (ia_cons (ie_str (by decide +kernel)) (ia_cons (ie_var (pv 0)) ia_nil))) ia_nil))))))
/-! ### compared -/
noncomputable def b_compared : MS :=
    (sSeq (sIf (tOf (eBin kEq (eVar 0) (eC (.str [60])))) (sRet (eCall F_truth_answer (aCons (eBin kLt (eVar 1) (eVar 2)) aNil))) sNext)
    (sSeq (sIf (tOf (eBin kEq (eVar 0) (eC (.str [60, 61])))) (sRet (eCall F_truth_answer (aCons (eBin kLe (eVar 1) (eVar 2)) aNil))) sNext)
    (sSeq (sIf (tOf (eBin kEq (eVar 0) (eC (.str [62])))) (sRet (eCall F_truth_answer (aCons (eBin kGt (eVar 1) (eVar 2)) aNil))) sNext)
    (sRet (eCall F_truth_answer (aCons (eBin kGe (eVar 1) (eVar 2)) aNil))))))
noncomputable def F_compared : FN := mkFn 3 3 b_compared
theorem fact_compared (T : Txt K mg) : FnFact P w K mg base cad "compared" 2 [] F_compared := by
  exact fn_fact (k := 1) (N := N_compared) T.f_compared sc_compared fun fa cdv A outer s H E hr => by
    have hu := hr.units
    exact
      (iss_cons (is_if (it_cmp (cm_eq hu) (ie_var (pv 0)) (ie_str (by decide +kernel)) (nomark _) bl_eq) (iss_one (is_ret (ie_call (fact_truth_answer T) (hr.mono (by decide)) rfl (ia_cons (ie_cmp cm_lt (ie_var (pv 1)) (ie_var (pv 2)) (nomark _)) ia_nil)))) iss_nil)
      (iss_cons (is_if (it_cmp (cm_eq hu) (ie_var (pv 0)) (ie_str (by decide +kernel)) (nomark _) bl_eq) (iss_one (is_ret (ie_call (fact_truth_answer T) (hr.mono (by decide)) rfl (ia_cons (ie_cmp cm_le (ie_var (pv 1)) (ie_var (pv 2)) (nomark _)) ia_nil)))) iss_nil)
      (iss_cons (is_if (it_cmp (cm_eq hu) (ie_var (pv 0)) (ie_str (by decide +kernel)) (nomark _) bl_eq) (iss_one (is_ret (ie_call (fact_truth_answer T) (hr.mono (by decide)) rfl (ia_cons (ie_cmp cm_gt (ie_var (pv 1)) (ie_var (pv 2)) (nomark _)) ia_nil)))) iss_nil)
      (iss_one (is_ret (ie_call (fact_truth_answer T) (hr.mono (by decide)) rfl (ia_cons (ie_cmp cm_ge (ie_var (pv 1)) (ie_var (pv 2)) (nomark _)) ia_nil)))))))
/-! ### two_numbers -/
noncomputable def b_two_numbers : MS :=
    (sSeq (sIf (tOf (eBin kEq (eVar 0) (eC (.str [43])))) (sRet (eCall F_number_answer (aCons (eBin opAdd (eVar 1) (eVar 2)) aNil))) sNext)
    (sSeq (sIf (tOf (eBin kEq (eVar 0) (eC (.str [45])))) (sRet (eCall F_number_answer (aCons (eBin opSub (eVar 1) (eVar 2)) aNil))) sNext)
    (sSeq (sIf (tOf (eBin kEq (eVar 0) (eC (.str [42])))) (sRet (eCall F_number_answer (aCons (eBin opMul (eVar 1) (eVar 2)) aNil))) sNext)
    (sSeq (sIf (tOf (eBin kEq (eVar 0) (eC (.str [47, 47])))) (sSeq (sIf (tOf (eBin kEq (eVar 2) (eC (.int 0)))) (sRet (eTup (aCons (eC (.str [102, 97, 117, 108, 116])) (aCons (eC (.str [78, 111, 117, 103, 104, 116, 70, 97, 117, 108, 116])) aNil)))) sNext)
    (sRet (eCall F_number_answer (aCons (eBin opDiv (eVar 1) (eVar 2)) aNil)))) sNext)
    (sSeq (sIf (tOr (tOf (eBin kLt (eVar 1) (eC (.int 0)))) (tOf (eBin kLt (eVar 2) (eC (.int 0))))) (sRet (eTup (aCons (eC (.str [102, 97, 117, 108, 116])) (aCons (eC (.str [75, 105, 110, 100, 70, 97, 117, 108, 116])) aNil)))) sNext)
    (sSeq (sIf (tOf (eBin kEq (eVar 0) (eC (.str [38])))) (sRet (eCall F_number_answer (aCons (eBin opAnd (eVar 1) (eVar 2)) aNil))) sNext)
    (sRet (eCall F_number_answer (aCons (eBin opOr (eVar 1) (eVar 2)) aNil)))))))))
noncomputable def F_two_numbers : FN := mkFn 3 3 b_two_numbers
theorem fact_two_numbers (T : Txt K mg) : FnFact P w K mg base cad "two_numbers" 2 [] F_two_numbers := by
  exact fn_fact (k := 1) (N := N_two_numbers) T.f_two_numbers sc_two_numbers fun fa cdv A outer s H E hr => by
    have hu := hr.units
    exact
      (iss_cons (is_if (it_cmp (cm_eq hu) (ie_var (pv 0)) (ie_str (by decide +kernel)) (nomark _) bl_eq) (iss_one (is_ret (ie_call (fact_number_answer T) (hr.mono (by decide)) rfl (ia_cons (ie_add (ie_var (pv 1)) (ie_var (pv 2))) ia_nil)))) iss_nil)
      (iss_cons (is_if (it_cmp (cm_eq hu) (ie_var (pv 0)) (ie_str (by decide +kernel)) (nomark _) bl_eq) (iss_one (is_ret (ie_call (fact_number_answer T) (hr.mono (by decide)) rfl (ia_cons (ie_sub (ie_var (pv 1)) (ie_var (pv 2))) ia_nil)))) iss_nil)
      (iss_cons (is_if (it_cmp (cm_eq hu) (ie_var (pv 0)) (ie_str (by decide +kernel)) (nomark _) bl_eq) (iss_one (is_ret (ie_call (fact_number_answer T) (hr.mono (by decide)) rfl (ia_cons (ie_mul (ie_var (pv 1)) (ie_var (pv 2))) ia_nil)))) iss_nil)
      (iss_cons (is_if (it_cmp (cm_eq hu) (ie_var (pv 0)) (ie_str (by decide +kernel)) (nomark _) bl_eq) (iss_cons (is_if (it_cmp (cm_eq hu) (ie_var (pv 2)) ie_int (nomark _) bl_eq) (iss_one (is_ret (ie_tup (ia_cons (ie_str (by decide +kernel)) (ia_cons (ie_str (by decide +kernel)) ia_nil))))) iss_nil)
      (iss_one (is_ret (ie_call (fact_number_answer T) (hr.mono (by decide)) rfl (ia_cons (ie_div (ie_var (pv 1)) (ie_var (pv 2))) ia_nil))))) iss_nil)
      (iss_cons (is_if (it_bool (iw_or (it_cmp cm_lt (ie_var (pv 1)) ie_int (nomark _) bl_ord) (iw_or1 (it_cmp cm_lt (ie_var (pv 2)) ie_int (nomark _) bl_ord)))) (iss_one (is_ret (ie_tup (ia_cons (ie_str (by decide +kernel)) (ia_cons (ie_str (by decide +kernel)) ia_nil))))) iss_nil)
      (iss_cons (is_if (it_cmp (cm_eq hu) (ie_var (pv 0)) (ie_str (by decide +kernel)) (nomark _) bl_eq) (iss_one (is_ret (ie_call (fact_number_answer T) (hr.mono (by decide)) rfl (ia_cons (ie_and (ie_var (pv 1)) (ie_var (pv 2))) ia_nil)))) iss_nil)
      (iss_one (is_ret (ie_call (fact_number_answer T) (hr.mono (by decide)) rfl (ia_cons (ie_or (ie_var (pv 1)) (ie_var (pv 2))) ia_nil))))))))))
/-! ### two_texts -/
noncomputable def b_two_texts : MS :=
    (sSeq (sIf (tOf (eBin kGt (eBin opAdd (eCall (o1 lenO) (aCons (eVar 0) aNil)) (eCall (o1 lenO) (aCons (eVar 1) aNil))) (eC (.int 200)))) (sRet (eTup (aCons (eC (.str [102, 97, 117, 108, 116])) (aCons (eC (.str [71, 114, 101, 97, 116, 70, 97, 117, 108, 116])) aNil)))) sNext)
    (sRet (eTup (aCons (eC (.str [118, 97, 108, 117, 101])) (aCons (eTup (aCons (eC (.str [116, 101, 120, 116])) (aCons (eBin opAdd (eVar 0) (eVar 1)) aNil))) aNil)))))
noncomputable def F_two_texts : FN := mkFn 2 2 b_two_texts
theorem fact_two_texts (T : Txt K mg) : FnFact P w K mg base cad "two_texts" 1 [] F_two_texts := by
  obtain ⟨tk_MOST_SIGNS, c_MOST_SIGNS⟩ := T.c_MOST_SIGNS
  exact fn_fact (k := 0) (N := N_two_texts) T.f_two_texts sc_two_texts fun fa cdv A outer s H E hr => by
    have hu := hr.units
    exact
      (iss_cons (is_if (it_cmp cm_gt (ie_add (ie_len rfl T.b_len (ia_cons (ie_var (pv 0)) ia_nil)) (ie_len rfl T.b_len (ia_cons (ie_var (pv 1)) ia_nil))) (ie_gint rfl c_MOST_SIGNS) (nomark _) bl_ord) (iss_one (is_ret (ie_tup (ia_cons (ie_str (by decide +kernel)) (ia_cons (ie_str (by decide +kernel)) ia_nil))))) iss_nil)
      (iss_one (is_ret (ie_tup (ia_cons (ie_str (by decide +kernel)) (ia_cons (ie_tup (ia_cons (ie_str (by decide +kernel)) (ia_cons (ie_add (ie_var (pv 0)) (ie_var (pv 1))) ia_nil))) ia_nil))))))
/-! ### two -/
noncomputable def b_two : MS :=
    (sSeq (sIf (tOr (tOf (eBin kEq (eVar 0) (eC (.str [61, 61])))) (tOf (eBin kEq (eVar 0) (eC (.str [33, 61]))))) (sRet (eCall F_truth_answer (aCons (eBin kEq (eBin kEq (eVar 1) (eVar 2)) (eBin kEq (eVar 0) (eC (.str [61, 61])))) aNil))) sNext)
    (sSeq (sIf (tOr (tOf (eBin kNe (eBin kIx (eVar 1) (eC (.int 0))) (eBin kIx (eVar 2) (eC (.int 0))))) (tOf (eBin (kIn true) (eBin kIx (eVar 1) (eC (.int 0))) (eTup (aCons (eC (.str [110, 117, 109, 98, 101, 114])) (aCons (eC (.str [116, 101, 120, 116])) (aCons (eC (.str [116, 114, 117, 116, 104])) aNil))))))) (sRet (eTup (aCons (eC (.str [102, 97, 117, 108, 116])) (aCons (eC (.str [75, 105, 110, 100, 70, 97, 117, 108, 116])) aNil)))) sNext)
    (sSeq (sIf (tOf (eBin kEq (eBin kIx (eVar 1) (eC (.int 0))) (eC (.str [116, 114, 117, 116, 104])))) (sSeq (sIf (tOf (eBin kEq (eVar 0) (eC (.str [38])))) (sRet (eCall F_truth_answer (aCons (eAnd (eBin kIx (eVar 1) (eC (.int 1))) (eBin kIx (eVar 2) (eC (.int 1)))) aNil))) sNext)
    (sSeq (sIf (tOf (eBin kEq (eVar 0) (eC (.str [124])))) (sRet (eCall F_truth_answer (aCons (eOr (eBin kIx (eVar 1) (eC (.int 1))) (eBin kIx (eVar 2) (eC (.int 1)))) aNil))) sNext)
    (sRet (eTup (aCons (eC (.str [102, 97, 117, 108, 116])) (aCons (eC (.str [75, 105, 110, 100, 70, 97, 117, 108, 116])) aNil)))))) sNext)
    (sSeq (sIf (tOf (eBin (kIn false) (eVar 0) (eTup (aCons (eC (.str [60])) (aCons (eC (.str [60, 61])) (aCons (eC (.str [62])) (aCons (eC (.str [62, 61])) aNil))))))) (sRet (eCall F_compared (aCons (eVar 0) (aCons (eBin kIx (eVar 1) (eC (.int 1))) (aCons (eBin kIx (eVar 2) (eC (.int 1))) aNil))))) sNext)
    (sSeq (sIf (tOf (eBin kEq (eBin kIx (eVar 1) (eC (.int 0))) (eC (.str [110, 117, 109, 98, 101, 114])))) (sRet (eCall F_two_numbers (aCons (eVar 0) (aCons (eBin kIx (eVar 1) (eC (.int 1))) (aCons (eBin kIx (eVar 2) (eC (.int 1))) aNil))))) sNext)
    (sSeq (sIf (tOf (eBin kEq (eVar 0) (eC (.str [43])))) (sRet (eCall F_two_texts (aCons (eBin kIx (eVar 1) (eC (.int 1))) (aCons (eBin kIx (eVar 2) (eC (.int 1))) aNil)))) sNext)
    (sRet (eTup (aCons (eC (.str [102, 97, 117, 108, 116])) (aCons (eC (.str [75, 105, 110, 100, 70, 97, 117, 108, 116])) aNil))))))))))
noncomputable def F_two : FN := mkFn 3 3 b_two
theorem fact_two (T : Txt K mg) : FnFact P w K mg base cad "two" 3 [] F_two := by
  exact fn_fact (k := 2) (N := N_two) T.f_two sc_two fun fa cdv A outer s H E hr => by
    have hu := hr.units
    exact
      (iss_cons (is_if (it_bool (iw_or (it_cmp (cm_eq hu) (ie_var (pv 0)) (ie_str (by decide +kernel)) (nomark _) bl_eq) (iw_or1 (it_cmp (cm_eq hu) (ie_var (pv 0)) (ie_str (by decide +kernel)) (nomark _) bl_eq)))) (iss_one (is_ret (ie_call (fact_truth_answer T) (hr.mono (by decide)) rfl (ia_cons (ie_cmp (cm_eq hu) (ie_cmp (cm_eq hu) (ie_var (pv 1)) (ie_var (pv 2)) (nomark _)) (ie_cmp (cm_eq hu) (ie_var (pv 0)) (ie_str (by decide +kernel)) (nomark _)) (nomark _)) ia_nil)))) iss_nil)
      (iss_cons (is_if (it_bool (iw_or (it_cmp (cm_ne hu) (ie_ix hu (ie_var (pv 1)) ie_int (fun _ _ => rfl)) (ie_ix hu (ie_var (pv 2)) ie_int (fun _ _ => rfl)) (nomark _) bl_ne) (iw_or1 (it_cmp (cm_notIn hu) (ie_ix hu (ie_var (pv 1)) ie_int (fun _ _ => rfl)) (ie_tup (ia_cons (ie_str (by decide +kernel)) (ia_cons (ie_str (by decide +kernel)) (ia_cons (ie_str (by decide +kernel)) ia_nil)))) (by rfl) bl_in)))) (iss_one (is_ret (ie_tup (ia_cons (ie_str (by decide +kernel)) (ia_cons (ie_str (by decide +kernel)) ia_nil))))) iss_nil)
      (iss_cons (is_if (it_cmp (cm_eq hu) (ie_ix hu (ie_var (pv 1)) ie_int (fun _ _ => rfl)) (ie_str (by decide +kernel)) (nomark _) bl_eq) (iss_cons (is_if (it_cmp (cm_eq hu) (ie_var (pv 0)) (ie_str (by decide +kernel)) (nomark _) bl_eq) (iss_one (is_ret (ie_call (fact_truth_answer T) (hr.mono (by decide)) rfl (ia_cons (ie_andV (ie_ix hu (ie_var (pv 1)) ie_int (fun _ _ => rfl)) (ie_one (ie_ix hu (ie_var (pv 2)) ie_int (fun _ _ => rfl)))) ia_nil)))) iss_nil)
      (iss_cons (is_if (it_cmp (cm_eq hu) (ie_var (pv 0)) (ie_str (by decide +kernel)) (nomark _) bl_eq) (iss_one (is_ret (ie_call (fact_truth_answer T) (hr.mono (by decide)) rfl (ia_cons (ie_orV (ie_ix hu (ie_var (pv 1)) ie_int (fun _ _ => rfl)) (ie_one (ie_ix hu (ie_var (pv 2)) ie_int (fun _ _ => rfl)))) ia_nil)))) iss_nil)
      (iss_one (is_ret (ie_tup (ia_cons (ie_str (by decide +kernel)) (ia_cons (ie_str (by decide +kernel)) ia_nil))))))) iss_nil)
      (iss_cons (is_if (it_cmp (cm_in hu) (ie_var (pv 0)) (ie_tup (ia_cons (ie_str (by decide +kernel)) (ia_cons (ie_str (by decide +kernel)) (ia_cons (ie_str (by decide +kernel)) (ia_cons (ie_str (by decide +kernel)) ia_nil))))) (by rfl) bl_in) (iss_one (is_ret (ie_call (fact_compared T) (hr.mono (by decide)) rfl (ia_cons (ie_var (pv 0)) (ia_cons (ie_ix hu (ie_var (pv 1)) ie_int (fun _ _ => rfl)) (ia_cons (ie_ix hu (ie_var (pv 2)) ie_int (fun _ _ => rfl)) ia_nil)))))) iss_nil)
      (iss_cons (is_if (it_cmp (cm_eq hu) (ie_ix hu (ie_var (pv 1)) ie_int (fun _ _ => rfl)) (ie_str (by decide +kernel)) (nomark _) bl_eq) (iss_one (is_ret (ie_call (fact_two_numbers T) (hr.mono (by decide)) rfl (ia_cons (ie_var (pv 0)) (ia_cons (ie_ix hu (ie_var (pv 1)) ie_int (fun _ _ => rfl)) (ia_cons (ie_ix hu (ie_var (pv 2)) ie_int (fun _ _ => rfl)) ia_nil)))))) iss_nil)
      (iss_cons (is_if (it_cmp (cm_eq hu) (ie_var (pv 0)) (ie_str (by decide +kernel)) (nomark _) bl_eq) (iss_one (is_ret (ie_call (fact_two_texts T) (hr.mono (by decide)) rfl (ia_cons (ie_ix hu (ie_var (pv 1)) ie_int (fun _ _ => rfl)) (ia_cons (ie_ix hu (ie_var (pv 2)) ie_int (fun _ _ => rfl)) ia_nil))))) iss_nil)
      (iss_one (is_ret (ie_tup (ia_cons (ie_str (by decide +kernel)) (ia_cons (ie_str (by decide +kernel)) ia_nil)))))))))))
/-! ### minus -/
noncomputable def b_minus : MS :=
    (sSeq (sIf (tOf (eBin kNe (eBin kIx (eVar 0) (eC (.int 0))) (eC (.str [110, 117, 109, 98, 101, 114])))) (sRet (eTup (aCons (eC (.str [102, 97, 117, 108, 116])) (aCons (eC (.str [75, 105, 110, 100, 70, 97, 117, 108, 116])) aNil)))) sNext)
    (sRet (eCall F_number_answer (aCons (eBin opSub (eC (.int 0)) (eBin kIx (eVar 0) (eC (.int 1)))) aNil))))
noncomputable def F_minus : FN := mkFn 1 1 b_minus
theorem fact_minus (T : Txt K mg) : FnFact P w K mg base cad "minus" 2 [] F_minus := by
  exact fn_fact (k := 1) (N := N_minus) T.f_minus sc_minus fun fa cdv A outer s H E hr => by
    have hu := hr.units
    exact
      (iss_cons (is_if (it_cmp (cm_ne hu) (ie_ix hu (ie_var (pv 0)) ie_int (fun _ _ => rfl)) (ie_str (by decide +kernel)) (nomark _) bl_ne) (iss_one (is_ret (ie_tup (ia_cons (ie_str (by decide +kernel)) (ia_cons (ie_str (by decide +kernel)) ia_nil))))) iss_nil)
      (iss_one (is_ret (ie_call (fact_number_answer T) (hr.mono (by decide)) rfl (ia_cons (ie_sub ie_int (ie_ix hu (ie_var (pv 0)) ie_int (fun _ _ => rfl))) ia_nil)))))
/-! ### is_wanting -/
noncomputable def b_is_wanting : MS :=
    (sRet (eBin (kIn false) (eVar 0) (eTup (aCons (eTup (aCons (eC (.str [116, 114, 117, 116, 104])) (aCons (eC (.bl false)) aNil))) (aCons (eTup (aCons (eC (.str [110, 111, 110, 101])) aNil)) (aCons (eTup (aCons (eC (.str [110, 117, 109, 98, 101, 114])) (aCons (eC (.int 0)) aNil))) (aCons (eTup (aCons (eC (.str [116, 101, 120, 116])) (aCons (eC (.str [])) aNil))) aNil)))))))
noncomputable def F_is_wanting : FN := mkFn 1 1 b_is_wanting
theorem fact_is_wanting (T : Txt K mg) : FnFact P w K mg base cad "is_wanting" 1 [] F_is_wanting := by
  exact fn_fact (k := 0) (N := N_is_wanting) T.f_is_wanting sc_is_wanting fun fa cdv A outer s H E hr => by
    have hu := hr.units
    exact
      (iss_one (is_ret (ie_cmp (cm_in hu) (ie_var (pv 0)) (ie_tup (ia_cons (ie_tup (ia_cons (ie_str (by decide +kernel)) (ia_cons ie_bl ia_nil))) (ia_cons (ie_tup (ia_cons (ie_str (by decide +kernel)) ia_nil)) (ia_cons (ie_tup (ia_cons (ie_str (by decide +kernel)) (ia_cons ie_int ia_nil))) (ia_cons (ie_tup (ia_cons (ie_str (by decide +kernel)) (ia_cons (ie_str (by decide +kernel)) ia_nil))) ia_nil))))) (by rfl))))
/-! ### _law_cell_at -/
noncomputable def b_l_cell_at : MS :=
    (sSeq (sIf (tOf (eBin kLt (eVar 1) (eCall (o1 lenO) (aCons (eVar 0) aNil)))) (sRet (eBin kIx (eVar 0) (eVar 1))) sNext)
    (sRet (eC (.int 0))))
noncomputable def F_l_cell_at : FN := mkFn 2 2 b_l_cell_at
theorem fact_l_cell_at (T : Txt K mg) : FnFact P w K mg base cad "_law_cell_at" 1 [] F_l_cell_at := by
  exact fn_fact (k := 0) (N := N_l_cell_at) T.f_l_cell_at sc_l_cell_at fun fa cdv A outer s H E hr => by
    have hu := hr.units
    exact
      (iss_cons (is_if (it_cmp cm_lt (ie_var (pv 1)) (ie_len rfl T.b_len (ia_cons (ie_var (pv 0)) ia_nil)) (nomark _) bl_ord) (iss_one (is_ret (ie_ix hu (ie_var (pv 0)) (ie_var (pv 1)) (fun _ _ => rfl)))) iss_nil)
      (iss_one (is_ret ie_int)))
/-! ### _law_cell -/
noncomputable def b_l_cell : MS :=
    (sSeq (sPut (eVar 1) (eC (.int 0)) (eBin opAdd (eBin kIx (eVar 1) (eC (.int 0))) (eC (.int 1))))
    (sSeq (sSet 2 (eBin kIx (eVar 1) (eC (.int 0))))
    (sSeq (sSet 3 (eBin opAdd (eBin opMul (eBin opMul (eC (.int 31)) (eVar 2)) (eVar 2)) (eBin opMul (eC (.int 7919)) (eVar 2))))
    (sSeq (sIf (tOf (eBin kGt (eCall (o1 lenO) (aCons (eVar 0) aNil)) (eC (.int 0)))) (sSet 3 (eBin opAdd (eVar 3) (eBin opMul (eBin kIx (eVar 0) (eBin opMod (eVar 2) (eCall (o1 lenO) (aCons (eVar 0) aNil)))) (eBin opAdd (eC (.int 1)) (eBin opDiv (eVar 2) (eCall (o1 lenO) (aCons (eVar 0) aNil))))))) sNext)
    (sRet (eBin opDiv (eBin opMod (eBin opMul (eVar 3) (eC (.int 48271))) (eC (.int 2147483647))) (eC (.int 7))))))))
noncomputable def F_l_cell : FN := mkFn 4 2 b_l_cell
theorem fact_l_cell (T : Txt K mg) : FnFact P w K mg base cad "_law_cell" 1 [] F_l_cell := by
  exact fn_fact (k := 0) (N := N_l_cell) T.f_l_cell sc_l_cell fun fa cdv A outer s H E hr => by
    have hu := hr.units
    exact
      (iss_cons (is_put hu (ie_var (pv 1)) ie_int (ie_add (ie_ix hu (ie_var (pv 1)) ie_int (fun _ _ => rfl)) ie_int))
      (iss_cons (is_set (i := 2) sc_l_cell.nd rfl (by first | exact Or.inl rfl | exact Or.inr rfl) (ie_ix hu (ie_var (pv 1)) ie_int (fun _ _ => rfl)))
      (iss_cons (is_set (i := 3) sc_l_cell.nd rfl (by first | exact Or.inl rfl | exact Or.inr rfl) (ie_add (ie_mul (ie_mul ie_int (ie_var (pv 2))) (ie_var (pv 2))) (ie_mul ie_int (ie_var (pv 2)))))
      (iss_cons (is_if (it_cmp cm_gt (ie_len rfl T.b_len (ia_cons (ie_var (pv 0)) ia_nil)) ie_int (nomark _) bl_ord) (iss_one (is_set (i := 3) sc_l_cell.nd rfl (by first | exact Or.inl rfl | exact Or.inr rfl) (ie_add (ie_var (pv 3)) (ie_mul (ie_ix hu (ie_var (pv 0)) (ie_mod (ie_var (pv 2)) (ie_len rfl T.b_len (ia_cons (ie_var (pv 0)) ia_nil))) (fun _ _ => rfl)) (ie_add ie_int (ie_div (ie_var (pv 2)) (ie_len rfl T.b_len (ia_cons (ie_var (pv 0)) ia_nil)))))))) iss_nil)
      (iss_one (is_ret (ie_div (ie_mod (ie_mul (ie_var (pv 3)) ie_int) ie_int) ie_int)))))))
/-! ### _law_same -/
noncomputable def eC_l_same_1 (R : FN) : ME :=
    (eCall R (aCons (eBin kIx (eVar 0) (eVar 2)) (aCons (eBin kIx (eVar 1) (eVar 2)) aNil)))
noncomputable def b_l_same (R : FN) : MS :=
    (sSeq (sIf (tOf (eUn (isiO [.lst, .tup]) (eVar 1))) (sSeq (sIf (tOr (tOf (eBin kNe (eUn (isiO [.lst]) (eVar 0)) (eUn (isiO [.lst]) (eVar 1)))) (tOf (eBin kNe (eUn (isiO [.tup]) (eVar 0)) (eUn (isiO [.tup]) (eVar 1))))) (sRet (eC (.bl false))) sNext)
    (sRet (eAnd (eBin kEq (eCall (o1 lenO) (aCons (eVar 0) aNil)) (eCall (o1 lenO) (aCons (eVar 1) aNil))) (eCall (o1 allO) (aCons (eLc [2] (iR1 (aCons (eCall (o1 lenO) (aCons (eVar 1) aNil)) aNil)) (mName 2) tYesM (eC_l_same_1 R)) aNil))))) sNext)
    (sRet (eAnd (eBin kEq (eUn (isiO [.bl]) (eVar 0)) (eUn (isiO [.bl]) (eVar 1))) (eBin kEq (eVar 0) (eVar 1)))))
noncomputable def F_l_same : Nat → FN
  | 0 => fun _ _ => none
  | n + 1 => mkFn 3 2 (b_l_same (F_l_same n))
theorem fact_l_same (T : Txt K mg) : ∀ n : Nat, FnFact P w K mg base cad "_law_same" (n + 1) [] (F_l_same n)
  | 0 => fn_fact0 T.f_l_same
  | n + 1 => by
    have ih := fact_l_same T n
    exact fn_fact (k := n + 1) (N := N_l_same) T.f_l_same sc_l_same fun fa cdv A outer s H E hr => by
      have hu := hr.units
      have hL : 1 ≤ n + 1 := Nat.le_add_left _ _
      exact
      (iss_cons (is_if (it_of (ie_isi2 (n := .lst) (m := .tup) (by decide) (by decide) rfl T.b_isinstance (ie_var (pv 1)) (pe_bltn (v := .ty "list") rfl T.b_list (by decide +kernel) rfl) (pe_bltn (v := .ty "tuple") rfl T.b_tuple (by decide +kernel) rfl))) (iss_cons (is_if (it_bool (iw_or (it_cmp (cm_ne hu) (ie_isi (n := .lst) (by decide) rfl T.b_isinstance (ie_var (pv 0)) (pe_bltn (v := .ty "list") rfl T.b_list (by decide +kernel) rfl)) (ie_isi (n := .lst) (by decide) rfl T.b_isinstance (ie_var (pv 1)) (pe_bltn (v := .ty "list") rfl T.b_list (by decide +kernel) rfl)) (nomark _) bl_ne) (iw_or1 (it_cmp (cm_ne hu) (ie_isi (n := .tup) (by decide) rfl T.b_isinstance (ie_var (pv 0)) (pe_bltn (v := .ty "tuple") rfl T.b_tuple (by decide +kernel) rfl)) (ie_isi (n := .tup) (by decide) rfl T.b_isinstance (ie_var (pv 1)) (pe_bltn (v := .ty "tuple") rfl T.b_tuple (by decide +kernel) rfl)) (nomark _) bl_ne)))) (iss_one (is_ret ie_bl)) iss_nil)
      (iss_one (is_ret (ie_andV (ie_cmp (cm_eq hu) (ie_len rfl T.b_len (ia_cons (ie_var (pv 0)) ia_nil)) (ie_len rfl T.b_len (ia_cons (ie_var (pv 1)) ia_nil)) (nomark _)) (ie_one (ie_all rfl rfl T.b_all (ia_cons (ie_lc (own := [("_law_k", 2)]) (t := tYesM) (tt := tYes) rfl sc_l_same.nd (ii_r1 rfl T.b_range (ia_cons (ie_len rfl T.b_len (ia_cons (ie_var (pv 1)) ia_nil)) ia_nil)) (blkOk_by (N := N_l_same) (sc := defScope s_l_same) (by decide +kernel)) (fun _ _ _ _ _ => (pg_name (i := 2) sc_l_same.nd rfl (by first | exact Or.inl rfl | exact Or.inr rfl))) (gw_name (i := 2) (by decide)) (fun _ _ _ _ _ => pts_nil) tYes_to (fun _ _ _ _ _ => (ie_call ih (hr.mono (by first | exact Nat.le_refl _ | exact Nat.le_trans (by decide) hL)) rfl (ia_cons (ie_ix hu (ie_var (pv 0)) (ie_var (pv 2)) (fun _ _ => rfl)) (ia_cons (ie_ix hu (ie_var (pv 1)) (ie_var (pv 2)) (fun _ _ => rfl)) ia_nil))))) ia_nil))))))) iss_nil)
      (iss_one (is_ret (ie_andV (ie_cmp (cm_eq hu) (ie_isi (n := .bl) (by decide) rfl T.b_isinstance (ie_var (pv 0)) (pe_bltn (v := .ty "bool") rfl T.b_bool (by decide +kernel) rfl)) (ie_isi (n := .bl) (by decide) rfl T.b_isinstance (ie_var (pv 1)) (pe_bltn (v := .ty "bool") rfl T.b_bool (by decide +kernel) rfl)) (nomark _)) (ie_one (ie_cmp (cm_eq hu) (ie_var (pv 0)) (ie_var (pv 1)) (nomark _)))))))
/-! ### _law_figure -/
noncomputable def b_l_figure : MS :=
    (sSeq (sSet 1 (eBin opSub (eBin opPow (eC (.int 10)) (eC (.int 30))) (eBin opMod (eBin opDiv (eVar 0) (eC (.int 8))) (eC (.int 3)))))
    (sSeq (sSet 2 (eBin opMod (eBin opMul (eVar 0) (eBin opPow (eC (.int 48271)) (eC (.int 5)))) (eBin opPow (eC (.int 10)) (eC (.int 30)))))
    (sRet (eBin kIx (eLst (aCons (eBin opSub (eBin opMod (eBin opDiv (eVar 0) (eC (.int 8))) (eC (.int 7))) (eC (.int 3))) (aCons (eBin opMod (eBin opDiv (eVar 0) (eC (.int 8))) (eC (.int 100))) (aCons (eVar 1) (aCons (eBin opSub (eC (.int 0)) (eVar 1)) (aCons (eBin opAdd (eBin opPow (eC (.int 10)) (eC (.int 15))) (eBin opMod (eBin opDiv (eVar 0) (eC (.int 8))) (eC (.int 5)))) (aCons (eBin opSub (eC (.int 0)) (eBin opDiv (eVar 0) (eC (.int 8)))) (aCons (eC (.int 2)) (aCons (eVar 2) aNil))))))))) (eBin opMod (eVar 0) (eC (.int 8)))))))
noncomputable def F_l_figure : FN := mkFn 3 1 b_l_figure
theorem fact_l_figure (T : Txt K mg) : FnFact P w K mg base cad "_law_figure" 1 [] F_l_figure := by
  exact fn_fact (k := 0) (N := N_l_figure) T.f_l_figure sc_l_figure fun fa cdv A outer s H E hr => by
    have hu := hr.units
    exact
      (iss_cons (is_set (i := 1) sc_l_figure.nd rfl (by first | exact Or.inl rfl | exact Or.inr rfl) (ie_sub (ie_pow ie_int ie_int) (ie_mod (ie_div (ie_var (pv 0)) ie_int) ie_int)))
      (iss_cons (is_set (i := 2) sc_l_figure.nd rfl (by first | exact Or.inl rfl | exact Or.inr rfl) (ie_mod (ie_mul (ie_var (pv 0)) (ie_pow ie_int ie_int)) (ie_pow ie_int ie_int)))
      (iss_one (is_ret (ie_ix hu (ie_lst (ia_cons (ie_sub (ie_mod (ie_div (ie_var (pv 0)) ie_int) ie_int) ie_int) (ia_cons (ie_mod (ie_div (ie_var (pv 0)) ie_int) ie_int) (ia_cons (ie_var (pv 1)) (ia_cons (ie_sub ie_int (ie_var (pv 1))) (ia_cons (ie_add (ie_pow ie_int ie_int) (ie_mod (ie_div (ie_var (pv 0)) ie_int) ie_int)) (ia_cons (ie_sub ie_int (ie_div (ie_var (pv 0)) ie_int)) (ia_cons ie_int (ia_cons (ie_var (pv 2)) ia_nil))))))))) (ie_mod (ie_var (pv 0)) ie_int) (fun _ _ => rfl))))))
/-! ### _law_text -/
noncomputable def eC_l_text_1 : ME :=
    (eBin kIx (eVar 1) (eBin opMod (eBin opAdd (eBin opDiv (eVar 0) (eC (.int 7000))) (eBin opMul (eC (.int 7)) (eVar 5))) (eCall (o1 lenO) (aCons (eVar 1) aNil))))
noncomputable def b_l_text : MS :=
    (sSeq (sSet 1 (eC (.str [32, 33, 35, 36, 38, 39, 40, 41, 42, 43, 44, 45, 46, 47, 48, 49, 50, 51, 52, 53, 54, 55, 56, 57, 58, 59, 60, 61, 62, 63, 64, 65, 66, 67, 68, 69, 70, 71, 72, 73, 74, 75, 76, 77, 78, 79, 80, 81, 82, 83, 84, 85, 86, 87, 88, 89, 90, 91, 93, 94, 95, 97, 98, 99, 100, 101, 102, 103, 104, 105, 106, 107, 108, 109, 110, 111, 112, 113, 114, 115, 116, 117, 118, 119, 120, 121, 122, 123, 124, 125, 126])))
    (sSeq (sSet 2 (eBin kIx (eLst (aCons (eBin opMod (eBin opDiv (eVar 0) (eC (.int 6))) (eC (.int 4))) (aCons (eBin opMod (eBin opDiv (eVar 0) (eC (.int 6))) (eC (.int 4))) (aCons (eBin opAdd (eC (.int 98)) (eBin opMod (eBin opDiv (eVar 0) (eC (.int 6))) (eC (.int 4)))) (aCons (eBin opAdd (eC (.int 198)) (eBin opMod (eBin opDiv (eVar 0) (eC (.int 6))) (eC (.int 3)))) (aCons (eC (.int 0)) (aCons (eBin opMod (eBin opDiv (eVar 0) (eC (.int 6))) (eC (.int 40))) aNil))))))) (eBin opMod (eVar 0) (eC (.int 6)))))
    (sSeq (sSet 3 (eBin opMod (eBin opDiv (eVar 0) (eC (.int 36))) (eC (.int 5))))
    (sSeq (sSet 4 (eBM isS joinM (eC (.str [])) (aCons (eLc [5] (iR1 (aCons (eVar 2) aNil)) (mName 5) tYesM eC_l_text_1) aNil)))
    (sSeq (sIf (tAnd (tOf (eBin kEq (eBin opMod (eBin opDiv (eVar 0) (eC (.int 180))) (eC (.int 2))) (eC (.int 1)))) (tOf (eBin kLt (eVar 3) (eVar 2)))) (sSet 4 (eBin opAdd (eBin opAdd (eSl (eVar 4) oNone (oSome (eVar 3))) (eBin kIx (eVar 1) (eBin opMod (eBin opDiv (eVar 0) (eC (.int 360))) (eCall (o1 lenO) (aCons (eVar 1) aNil))))) (eSl (eVar 4) (oSome (eBin opAdd (eVar 3) (eC (.int 1)))) oNone))) sNext)
    (sRet (eVar 4)))))))
noncomputable def F_l_text : FN := mkFn 6 1 b_l_text
theorem fact_l_text (T : Txt K mg) : FnFact P w K mg base cad "_law_text" 1 [] F_l_text := by
  exact fn_fact (k := 0) (N := N_l_text) T.f_l_text sc_l_text fun fa cdv A outer s H E hr => by
    have hu := hr.units
    exact
      (iss_cons (is_set (i := 1) sc_l_text.nd rfl (by first | exact Or.inl rfl | exact Or.inr rfl) (ie_str (by decide +kernel)))
      (iss_cons (is_set (i := 2) sc_l_text.nd rfl (by first | exact Or.inl rfl | exact Or.inr rfl) (ie_ix hu (ie_lst (ia_cons (ie_mod (ie_div (ie_var (pv 0)) ie_int) ie_int) (ia_cons (ie_mod (ie_div (ie_var (pv 0)) ie_int) ie_int) (ia_cons (ie_add ie_int (ie_mod (ie_div (ie_var (pv 0)) ie_int) ie_int)) (ia_cons (ie_add ie_int (ie_mod (ie_div (ie_var (pv 0)) ie_int) ie_int)) (ia_cons ie_int (ia_cons (ie_mod (ie_div (ie_var (pv 0)) ie_int) ie_int) ia_nil))))))) (ie_mod (ie_var (pv 0)) ie_int) (fun _ _ => rfl)))
      (iss_cons (is_set (i := 3) sc_l_text.nd rfl (by first | exact Or.inl rfl | exact Or.inr rfl) (ie_mod (ie_div (ie_var (pv 0)) ie_int) ie_int))
      (iss_cons (is_set (i := 4) sc_l_text.nd rfl (by first | exact Or.inl rfl | exact Or.inr rfl) (ie_join (ie_str (by decide +kernel)) (ia_cons (ie_lc (own := [("_law_k", 5)]) (t := tYesM) (tt := tYes) rfl sc_l_text.nd (ii_r1 rfl T.b_range (ia_cons (ie_var (pv 2)) ia_nil)) (blkOk_by (N := N_l_text) (sc := defScope s_l_text) (by decide +kernel)) (fun _ _ _ _ _ => (pg_name (i := 5) sc_l_text.nd rfl (by first | exact Or.inl rfl | exact Or.inr rfl))) (gw_name (i := 5) (by decide)) (fun _ _ _ _ _ => pts_nil) tYes_to (fun _ _ _ _ _ => (ie_ix hu (ie_var (pv 1)) (ie_mod (ie_add (ie_div (ie_var (pv 0)) ie_int) (ie_mul ie_int (ie_var (pv 5)))) (ie_len rfl T.b_len (ia_cons (ie_var (pv 1)) ia_nil))) (fun _ _ => rfl)))) ia_nil)))
      (iss_cons (is_if (it_bool (iw_and (it_cmp (cm_eq hu) (ie_mod (ie_div (ie_var (pv 0)) ie_int) ie_int) ie_int (nomark _) bl_eq) (iw_and1 (it_cmp cm_lt (ie_var (pv 3)) (ie_var (pv 2)) (nomark _) bl_ord)))) (iss_one (is_set (i := 4) sc_l_text.nd rfl (by first | exact Or.inl rfl | exact Or.inr rfl) (ie_add (ie_add (ie_sl (ie_var (pv 4)) io_none (io_some (ie_var (pv 3)))) (ie_ix hu (ie_var (pv 1)) (ie_mod (ie_div (ie_var (pv 0)) ie_int) (ie_len rfl T.b_len (ia_cons (ie_var (pv 1)) ia_nil))) (fun _ _ => rfl))) (ie_sl (ie_var (pv 4)) (io_some (ie_add (ie_var (pv 3)) ie_int)) io_none)))) iss_nil)
      (iss_one (is_ret (ie_var (pv 4)))))))))
/-! ### _law_value -/
noncomputable def b_l_value : MS :=
    (sSeq (sIf (tOf (eBin kEq (eVar 1) (eC (.int 0)))) (sRet (eTup (aCons (eC (.str [110, 117, 109, 98, 101, 114])) (aCons (eCall F_l_figure (aCons (eVar 0) aNil)) aNil)))) sNext)
    (sSeq (sIf (tOf (eBin kEq (eVar 1) (eC (.int 1)))) (sRet (eTup (aCons (eC (.str [116, 101, 120, 116])) (aCons (eCall F_l_text (aCons (eVar 0) aNil)) aNil)))) sNext)
    (sSeq (sIf (tOf (eBin kEq (eVar 1) (eC (.int 2)))) (sRet (eTup (aCons (eC (.str [116, 114, 117, 116, 104])) (aCons (eBin kEq (eBin opMod (eVar 0) (eC (.int 2))) (eC (.int 1))) aNil)))) sNext)
    (sSeq (sIf (tOf (eBin kEq (eVar 1) (eC (.int 3)))) (sRet (eTup (aCons (eC (.str [110, 111, 110, 101])) aNil))) sNext)
    (sRet (eTup (aCons (eC (.str [116, 104, 105, 110, 103])) (aCons (eBin opMod (eVar 0) (eC (.int 3))) aNil))))))))
noncomputable def F_l_value : FN := mkFn 2 2 b_l_value
theorem fact_l_value (T : Txt K mg) : FnFact P w K mg base cad "_law_value" 2 [] F_l_value := by
  exact fn_fact (k := 1) (N := N_l_value) T.f_l_value sc_l_value fun fa cdv A outer s H E hr => by
    have hu := hr.units
    exact
      (iss_cons (is_if (it_cmp (cm_eq hu) (ie_var (pv 1)) ie_int (nomark _) bl_eq) (iss_one (is_ret (ie_tup (ia_cons (ie_str (by decide +kernel)) (ia_cons (ie_call (fact_l_figure T) (hr.mono (by decide)) rfl (ia_cons (ie_var (pv 0)) ia_nil)) ia_nil))))) iss_nil)
      (iss_cons (is_if (it_cmp (cm_eq hu) (ie_var (pv 1)) ie_int (nomark _) bl_eq) (iss_one (is_ret (ie_tup (ia_cons (ie_str (by decide +kernel)) (ia_cons (ie_call (fact_l_text T) (hr.mono (by decide)) rfl (ia_cons (ie_var (pv 0)) ia_nil)) ia_nil))))) iss_nil)
      (iss_cons (is_if (it_cmp (cm_eq hu) (ie_var (pv 1)) ie_int (nomark _) bl_eq) (iss_one (is_ret (ie_tup (ia_cons (ie_str (by decide +kernel)) (ia_cons (ie_cmp (cm_eq hu) (ie_mod (ie_var (pv 0)) ie_int) ie_int (nomark _)) ia_nil))))) iss_nil)
      (iss_cons (is_if (it_cmp (cm_eq hu) (ie_var (pv 1)) ie_int (nomark _) bl_eq) (iss_one (is_ret (ie_tup (ia_cons (ie_str (by decide +kernel)) ia_nil)))) iss_nil)
      (iss_one (is_ret (ie_tup (ia_cons (ie_str (by decide +kernel)) (ia_cons (ie_mod (ie_var (pv 0)) ie_int) ia_nil)))))))))
/-! ### _law_divided -/
noncomputable def b_l_divided : MS :=
    (sSeq (sSet 2 (eBin opDiv (eCall (o1 absO) (aCons (eVar 0) aNil)) (eCall (o1 absO) (aCons (eVar 1) aNil))))
    (sSeq (sIf (tOf (eBin kEq (eBin kLt (eVar 0) (eC (.int 0))) (eBin kLt (eVar 1) (eC (.int 0))))) (sRet (eVar 2)) sNext)
    (sRet (eBin opSub (eBin opSub (eC (.int 0)) (eVar 2)) (eCall (o1 intO) (aCons (eBin kLt (eBin opMul (eVar 2) (eCall (o1 absO) (aCons (eVar 1) aNil))) (eCall (o1 absO) (aCons (eVar 0) aNil))) aNil))))))
noncomputable def F_l_divided : FN := mkFn 3 2 b_l_divided
theorem fact_l_divided (T : Txt K mg) : FnFact P w K mg base cad "_law_divided" 1 [] F_l_divided := by
  exact fn_fact (k := 0) (N := N_l_divided) T.f_l_divided sc_l_divided fun fa cdv A outer s H E hr => by
    have hu := hr.units
    exact
      (iss_cons (is_set (i := 2) sc_l_divided.nd rfl (by first | exact Or.inl rfl | exact Or.inr rfl) (ie_div (ie_abs rfl T.b_abs (ia_cons (ie_var (pv 0)) ia_nil)) (ie_abs rfl T.b_abs (ia_cons (ie_var (pv 1)) ia_nil))))
      (iss_cons (is_if (it_cmp (cm_eq hu) (ie_cmp cm_lt (ie_var (pv 0)) ie_int (nomark _)) (ie_cmp cm_lt (ie_var (pv 1)) ie_int (nomark _)) (nomark _) bl_eq) (iss_one (is_ret (ie_var (pv 2)))) iss_nil)
      (iss_one (is_ret (ie_sub (ie_sub ie_int (ie_var (pv 2))) (ie_toInt rfl T.b_int (ia_cons (ie_cmp cm_lt (ie_mul (ie_var (pv 2)) (ie_abs rfl T.b_abs (ia_cons (ie_var (pv 1)) ia_nil))) (ie_abs rfl T.b_abs (ia_cons (ie_var (pv 0)) ia_nil)) (nomark _)) ia_nil)))))))
/-! ### _law_bits -/
noncomputable def tW_l_bits_1 : MT :=
    (tOr (tOf (eBin kGt (eVar 1) (eC (.int 0)))) (tOf (eBin kGt (eVar 2) (eC (.int 0)))))
noncomputable def uW_l_bits_2 : MS :=
    (sSeq (sSet 5 (eBin opAdd (eBin opMod (eVar 1) (eC (.int 2))) (eBin opMod (eVar 2) (eC (.int 2)))))
    (sSeq (sIf (tOr (tOf (eBin kEq (eVar 5) (eC (.int 2)))) (tAnd (tOf (eBin kEq (eVar 5) (eC (.int 1)))) (tOf (eBin kEq (eVar 0) (eC (.str [124])))))) (sSet 3 (eBin opAdd (eVar 3) (eVar 4))) sNext)
    (sPar3 1 2 4 (aCons (eBin opDiv (eVar 1) (eC (.int 2))) (aCons (eBin opDiv (eVar 2) (eC (.int 2))) (aCons (eBin opMul (eVar 4) (eC (.int 2))) aNil))))))
noncomputable def b_l_bits : MS :=
    (sSeq (sAsg (eTup (aCons (eC (.int 0)) (aCons (eC (.int 1)) aNil))) (mTup 2 (mCons (mName 3) (mCons (mName 4) mNil))))
    (sSeq (sWhile tW_l_bits_1 uW_l_bits_2)
    (sRet (eVar 3))))
noncomputable def F_l_bits : FN := mkFn 6 3 b_l_bits
theorem fact_l_bits (T : Txt K mg) : FnFact P w K mg base cad "_law_bits" 1 [] F_l_bits := by
  exact fn_fact (k := 0) (N := N_l_bits) T.f_l_bits sc_l_bits fun fa cdv A outer s H E hr => by
    have hu := hr.units
    exact
      (iss_cons (is_asg (ie_tup (ia_cons ie_int (ia_cons ie_int ia_nil))) (ig_tup (n := 2) rfl (igs_cons (ig_name (i := 3) sc_l_bits.nd rfl (by first | exact Or.inl rfl | exact Or.inr rfl)) (igs_cons (ig_name (i := 4) sc_l_bits.nd rfl (by first | exact Or.inl rfl | exact Or.inr rfl)) igs_nil))))
      (iss_cons (is_while PassesOwn.never (it_bool (iw_or (it_cmp cm_gt (ie_var (pv 1)) ie_int (nomark _) bl_ord) (iw_or1 (it_cmp cm_gt (ie_var (pv 2)) ie_int (nomark _) bl_ord)))) (iss_cons (is_set (i := 5) sc_l_bits.nd rfl (by first | exact Or.inl rfl | exact Or.inr rfl) (ie_add (ie_mod (ie_var (pv 1)) ie_int) (ie_mod (ie_var (pv 2)) ie_int)))
      (iss_cons (is_if (it_bool (iw_or (it_cmp (cm_eq hu) (ie_var (pv 5)) ie_int (nomark _) bl_eq) (iw_or1 (it_bool (iw_and (it_cmp (cm_eq hu) (ie_var (pv 5)) ie_int (nomark _) bl_eq) (iw_and1 (it_cmp (cm_eq hu) (ie_var (pv 0)) (ie_str (by decide +kernel)) (nomark _) bl_eq))))))) (iss_one (is_set (i := 3) sc_l_bits.nd rfl (by first | exact Or.inl rfl | exact Or.inr rfl) (ie_add (ie_var (pv 3)) (ie_var (pv 4))))) iss_nil)
      (iss_one (is_par3 (i := 1) (j := 2) (l := 4) rfl sc_l_bits.nd rfl rfl rfl (by decide) (by decide) (by decide) rfl rfl rfl (ia_cons (ie_div (ie_var (pv 1)) ie_int) (ia_cons (ie_div (ie_var (pv 2)) ie_int) (ia_cons (ie_mul (ie_var (pv 4)) ie_int) ia_nil))) (by rfl))))))
      (iss_one (is_ret (ie_var (pv 3))))))
/-! ### _law_number -/
noncomputable def b_l_number : MS :=
    (sRet (eIf (tOf (eBin kLe (eCall (o1 absO) (aCons (eVar 0) aNil)) (eBin opPow (eC (.int 10)) (eC (.int 30))))) (eTup (aCons (eC (.str [118, 97, 108, 117, 101])) (aCons (eTup (aCons (eC (.str [110, 117, 109, 98, 101, 114])) (aCons (eVar 0) aNil))) aNil))) (eTup (aCons (eC (.str [102, 97, 117, 108, 116])) (aCons (eC (.str [71, 114, 101, 97, 116, 70, 97, 117, 108, 116])) aNil)))))
noncomputable def F_l_number : FN := mkFn 1 1 b_l_number
theorem fact_l_number (T : Txt K mg) : FnFact P w K mg base cad "_law_number" 1 [] F_l_number := by
  exact fn_fact (k := 0) (N := N_l_number) T.f_l_number sc_l_number fun fa cdv A outer s H E hr => by
    have hu := hr.units
    exact
      (iss_one (is_ret (ie_if (it_cmp cm_le (ie_abs rfl T.b_abs (ia_cons (ie_var (pv 0)) ia_nil)) (ie_pow ie_int ie_int) (nomark _) bl_ord) (ie_tup (ia_cons (ie_str (by decide +kernel)) (ia_cons (ie_tup (ia_cons (ie_str (by decide +kernel)) (ia_cons (ie_var (pv 0)) ia_nil))) ia_nil))) (ie_tup (ia_cons (ie_str (by decide +kernel)) (ia_cons (ie_str (by decide +kernel)) ia_nil))))))
/-! ### _law_numbers -/
noncomputable def b_l_numbers : MS :=
    (sSeq (sIf (tOr (tOf (eBin kEq (eVar 0) (eC (.str [43])))) (tOf (eBin kEq (eVar 0) (eC (.str [45]))))) (sRet (eCall F_l_number (aCons (eIf (tOf (eBin kEq (eVar 0) (eC (.str [43])))) (eBin opAdd (eVar 1) (eVar 2)) (eBin opSub (eVar 1) (eVar 2))) aNil))) sNext)
    (sSeq (sIf (tOf (eBin kEq (eVar 0) (eC (.str [42])))) (sRet (eCall F_l_number (aCons (eBin opMul (eVar 1) (eVar 2)) aNil))) sNext)
    (sSeq (sIf (tOf (eBin kEq (eVar 0) (eC (.str [47, 47])))) (sRet (eIf (tOf (eBin kEq (eVar 2) (eC (.int 0)))) (eTup (aCons (eC (.str [102, 97, 117, 108, 116])) (aCons (eC (.str [78, 111, 117, 103, 104, 116, 70, 97, 117, 108, 116])) aNil))) (eCall F_l_number (aCons (eCall F_l_divided (aCons (eVar 1) (aCons (eVar 2) aNil))) aNil)))) sNext)
    (sSeq (sIf (tOr (tOf (eBin kLt (eVar 1) (eC (.int 0)))) (tOf (eBin kLt (eVar 2) (eC (.int 0))))) (sRet (eTup (aCons (eC (.str [102, 97, 117, 108, 116])) (aCons (eC (.str [75, 105, 110, 100, 70, 97, 117, 108, 116])) aNil)))) sNext)
    (sRet (eCall F_l_number (aCons (eCall F_l_bits (aCons (eVar 0) (aCons (eVar 1) (aCons (eVar 2) aNil)))) aNil)))))))
noncomputable def F_l_numbers : FN := mkFn 3 3 b_l_numbers
theorem fact_l_numbers (T : Txt K mg) : FnFact P w K mg base cad "_law_numbers" 2 [] F_l_numbers := by
  exact fn_fact (k := 1) (N := N_l_numbers) T.f_l_numbers sc_l_numbers fun fa cdv A outer s H E hr => by
    have hu := hr.units
    exact
      (iss_cons (is_if (it_bool (iw_or (it_cmp (cm_eq hu) (ie_var (pv 0)) (ie_str (by decide +kernel)) (nomark _) bl_eq) (iw_or1 (it_cmp (cm_eq hu) (ie_var (pv 0)) (ie_str (by decide +kernel)) (nomark _) bl_eq)))) (iss_one (is_ret (ie_call (fact_l_number T) (hr.mono (by decide)) rfl (ia_cons (ie_if (it_cmp (cm_eq hu) (ie_var (pv 0)) (ie_str (by decide +kernel)) (nomark _) bl_eq) (ie_add (ie_var (pv 1)) (ie_var (pv 2))) (ie_sub (ie_var (pv 1)) (ie_var (pv 2)))) ia_nil)))) iss_nil)
      (iss_cons (is_if (it_cmp (cm_eq hu) (ie_var (pv 0)) (ie_str (by decide +kernel)) (nomark _) bl_eq) (iss_one (is_ret (ie_call (fact_l_number T) (hr.mono (by decide)) rfl (ia_cons (ie_mul (ie_var (pv 1)) (ie_var (pv 2))) ia_nil)))) iss_nil)
      (iss_cons (is_if (it_cmp (cm_eq hu) (ie_var (pv 0)) (ie_str (by decide +kernel)) (nomark _) bl_eq) (iss_one (is_ret (ie_if (it_cmp (cm_eq hu) (ie_var (pv 2)) ie_int (nomark _) bl_eq) (ie_tup (ia_cons (ie_str (by decide +kernel)) (ia_cons (ie_str (by decide +kernel)) ia_nil))) (ie_call (fact_l_number T) (hr.mono (by decide)) rfl (ia_cons (ie_call (fact_l_divided T) (hr.mono (by decide)) rfl (ia_cons (ie_var (pv 1)) (ia_cons (ie_var (pv 2)) ia_nil))) ia_nil))))) iss_nil)
      (iss_cons (is_if (it_bool (iw_or (it_cmp cm_lt (ie_var (pv 1)) ie_int (nomark _) bl_ord) (iw_or1 (it_cmp cm_lt (ie_var (pv 2)) ie_int (nomark _) bl_ord)))) (iss_one (is_ret (ie_tup (ia_cons (ie_str (by decide +kernel)) (ia_cons (ie_str (by decide +kernel)) ia_nil))))) iss_nil)
      (iss_one (is_ret (ie_call (fact_l_number T) (hr.mono (by decide)) rfl (ia_cons (ie_call (fact_l_bits T) (hr.mono (by decide)) rfl (ia_cons (ie_var (pv 0)) (ia_cons (ie_var (pv 1)) (ia_cons (ie_var (pv 2)) ia_nil)))) ia_nil))))))))
/-! ### _law_due -/
noncomputable def b_l_due : MS :=
    (sSeq (sSet 3 (eAnd (eBin kEq (eBin kIx (eVar 1) (eC (.int 0))) (eBin kIx (eVar 2) (eC (.int 0)))) (eBin kEq (eVar 1) (eVar 2))))
    (sSeq (sIf (tOr (tOf (eBin kEq (eVar 0) (eC (.str [61, 61])))) (tOf (eBin kEq (eVar 0) (eC (.str [33, 61]))))) (sRet (eTup (aCons (eC (.str [118, 97, 108, 117, 101])) (aCons (eTup (aCons (eC (.str [116, 114, 117, 116, 104])) (aCons (eBin kEq (eVar 3) (eBin kEq (eVar 0) (eC (.str [61, 61])))) aNil))) aNil)))) sNext)
    (sSeq (sSet 4 (eTup (aCons (eBin kIx (eVar 1) (eC (.int 0))) (aCons (eBin kIx (eVar 2) (eC (.int 0))) aNil))))
    (sSeq (sIf (tAnd (tOf (eBin kEq (eVar 4) (eTup (aCons (eC (.str [116, 114, 117, 116, 104])) (aCons (eC (.str [116, 114, 117, 116, 104])) aNil))))) (tOf (eBin (kIn false) (eVar 0) (eTup (aCons (eC (.str [38])) (aCons (eC (.str [124])) aNil)))))) (sSeq (sSet 5 (eBin opAdd (eCall (o1 intO) (aCons (eBin kIx (eVar 1) (eC (.int 1))) aNil)) (eCall (o1 intO) (aCons (eBin kIx (eVar 2) (eC (.int 1))) aNil))))
    (sRet (eTup (aCons (eC (.str [118, 97, 108, 117, 101])) (aCons (eTup (aCons (eC (.str [116, 114, 117, 116, 104])) (aCons (eOr (eBin kEq (eVar 5) (eC (.int 2))) (eAnd (eBin kEq (eVar 5) (eC (.int 1))) (eBin kEq (eVar 0) (eC (.str [124]))))) aNil))) aNil))))) sNext)
    (sSeq (sIf (tOf (eBin (kIn true) (eVar 4) (eTup (aCons (eTup (aCons (eC (.str [110, 117, 109, 98, 101, 114])) (aCons (eC (.str [110, 117, 109, 98, 101, 114])) aNil))) (aCons (eTup (aCons (eC (.str [116, 101, 120, 116])) (aCons (eC (.str [116, 101, 120, 116])) aNil))) aNil))))) (sRet (eTup (aCons (eC (.str [102, 97, 117, 108, 116])) (aCons (eC (.str [75, 105, 110, 100, 70, 97, 117, 108, 116])) aNil)))) sNext)
    (sSeq (sIf (tOf (eBin (kIn false) (eVar 0) (eTup (aCons (eC (.str [60])) (aCons (eC (.str [60, 61])) (aCons (eC (.str [62])) (aCons (eC (.str [62, 61])) aNil))))))) (sSeq (sSet 6 (eBin kLt (eBin kIx (eVar 1) (eC (.int 1))) (eBin kIx (eVar 2) (eC (.int 1)))))
    (sSeq (sSet 7 (eDisp (psCons (eC (.str [60])) (eVar 6) (psCons (eC (.str [60, 61])) (eOr (eVar 6) (eVar 3)) (psCons (eC (.str [62])) (eAnd (eNot (eVar 6)) (eNot (eVar 3))) (psCons (eC (.str [62, 61])) (eNot (eVar 6)) psNil))))))
    (sRet (eTup (aCons (eC (.str [118, 97, 108, 117, 101])) (aCons (eTup (aCons (eC (.str [116, 114, 117, 116, 104])) (aCons (eBin kIx (eVar 7) (eVar 0)) aNil))) aNil)))))) sNext)
    (sSeq (sIf (tOf (eBin kEq (eVar 4) (eTup (aCons (eC (.str [110, 117, 109, 98, 101, 114])) (aCons (eC (.str [110, 117, 109, 98, 101, 114])) aNil))))) (sRet (eCall F_l_numbers (aCons (eVar 0) (aCons (eBin kIx (eVar 1) (eC (.int 1))) (aCons (eBin kIx (eVar 2) (eC (.int 1))) aNil))))) sNext)
    (sSeq (sIf (tOf (eBin kNe (eVar 0) (eC (.str [43])))) (sRet (eTup (aCons (eC (.str [102, 97, 117, 108, 116])) (aCons (eC (.str [75, 105, 110, 100, 70, 97, 117, 108, 116])) aNil)))) sNext)
    (sRet (eIf (tOf (eBin kLt (eCall (o1 lenO) (aCons (eBin opAdd (eBin kIx (eVar 1) (eC (.int 1))) (eBin kIx (eVar 2) (eC (.int 1)))) aNil)) (eC (.int 201)))) (eTup (aCons (eC (.str [118, 97, 108, 117, 101])) (aCons (eTup (aCons (eC (.str [116, 101, 120, 116])) (aCons (eBin opAdd (eBin kIx (eVar 1) (eC (.int 1))) (eBin kIx (eVar 2) (eC (.int 1)))) aNil))) aNil))) (eTup (aCons (eC (.str [102, 97, 117, 108, 116])) (aCons (eC (.str [71, 114, 101, 97, 116, 70, 97, 117, 108, 116])) aNil)))))))))))))
noncomputable def F_l_due : FN := mkFn 8 3 b_l_due
theorem fact_l_due (T : Txt K mg) : FnFact P w K mg base cad "_law_due" 3 [] F_l_due := by
  exact fn_fact (k := 2) (N := N_l_due) T.f_l_due sc_l_due fun fa cdv A outer s H E hr => by
    have hu := hr.units
    exact
      (iss_cons (is_set (i := 3) sc_l_due.nd rfl (by first | exact Or.inl rfl | exact Or.inr rfl) (ie_andV (ie_cmp (cm_eq hu) (ie_ix hu (ie_var (pv 1)) ie_int (fun _ _ => rfl)) (ie_ix hu (ie_var (pv 2)) ie_int (fun _ _ => rfl)) (nomark _)) (ie_one (ie_cmp (cm_eq hu) (ie_var (pv 1)) (ie_var (pv 2)) (nomark _)))))
      (iss_cons (is_if (it_bool (iw_or (it_cmp (cm_eq hu) (ie_var (pv 0)) (ie_str (by decide +kernel)) (nomark _) bl_eq) (iw_or1 (it_cmp (cm_eq hu) (ie_var (pv 0)) (ie_str (by decide +kernel)) (nomark _) bl_eq)))) (iss_one (is_ret (ie_tup (ia_cons (ie_str (by decide +kernel)) (ia_cons (ie_tup (ia_cons (ie_str (by decide +kernel)) (ia_cons (ie_cmp (cm_eq hu) (ie_var (pv 3)) (ie_cmp (cm_eq hu) (ie_var (pv 0)) (ie_str (by decide +kernel)) (nomark _)) (nomark _)) ia_nil))) ia_nil))))) iss_nil)
      (iss_cons (is_set (i := 4) sc_l_due.nd rfl (by first | exact Or.inl rfl | exact Or.inr rfl) (ie_tup (ia_cons (ie_ix hu (ie_var (pv 1)) ie_int (fun _ _ => rfl)) (ia_cons (ie_ix hu (ie_var (pv 2)) ie_int (fun _ _ => rfl)) ia_nil))))
      (iss_cons (is_if (it_bool (iw_and (it_cmp (cm_eq hu) (ie_var (pv 4)) (ie_tup (ia_cons (ie_str (by decide +kernel)) (ia_cons (ie_str (by decide +kernel)) ia_nil))) (nomark _) bl_eq) (iw_and1 (it_cmp (cm_in hu) (ie_var (pv 0)) (ie_tup (ia_cons (ie_str (by decide +kernel)) (ia_cons (ie_str (by decide +kernel)) ia_nil))) (by rfl) bl_in)))) (iss_cons (is_set (i := 5) sc_l_due.nd rfl (by first | exact Or.inl rfl | exact Or.inr rfl) (ie_add (ie_toInt rfl T.b_int (ia_cons (ie_ix hu (ie_var (pv 1)) ie_int (fun _ _ => rfl)) ia_nil)) (ie_toInt rfl T.b_int (ia_cons (ie_ix hu (ie_var (pv 2)) ie_int (fun _ _ => rfl)) ia_nil))))
      (iss_one (is_ret (ie_tup (ia_cons (ie_str (by decide +kernel)) (ia_cons (ie_tup (ia_cons (ie_str (by decide +kernel)) (ia_cons (ie_orV (ie_cmp (cm_eq hu) (ie_var (pv 5)) ie_int (nomark _)) (ie_one (ie_andV (ie_cmp (cm_eq hu) (ie_var (pv 5)) ie_int (nomark _)) (ie_one (ie_cmp (cm_eq hu) (ie_var (pv 0)) (ie_str (by decide +kernel)) (nomark _)))))) ia_nil))) ia_nil)))))) iss_nil)
      (iss_cons (is_if (it_cmp (cm_notIn hu) (ie_var (pv 4)) (ie_tup (ia_cons (ie_tup (ia_cons (ie_str (by decide +kernel)) (ia_cons (ie_str (by decide +kernel)) ia_nil))) (ia_cons (ie_tup (ia_cons (ie_str (by decide +kernel)) (ia_cons (ie_str (by decide +kernel)) ia_nil))) ia_nil))) (by rfl) bl_in) (iss_one (is_ret (ie_tup (ia_cons (ie_str (by decide +kernel)) (ia_cons (ie_str (by decide +kernel)) ia_nil))))) iss_nil)
      (iss_cons (is_if (it_cmp (cm_in hu) (ie_var (pv 0)) (ie_tup (ia_cons (ie_str (by decide +kernel)) (ia_cons (ie_str (by decide +kernel)) (ia_cons (ie_str (by decide +kernel)) (ia_cons (ie_str (by decide +kernel)) ia_nil))))) (by rfl) bl_in) (iss_cons (is_set (i := 6) sc_l_due.nd rfl (by first | exact Or.inl rfl | exact Or.inr rfl) (ie_cmp cm_lt (ie_ix hu (ie_var (pv 1)) ie_int (fun _ _ => rfl)) (ie_ix hu (ie_var (pv 2)) ie_int (fun _ _ => rfl)) (nomark _)))
      (iss_cons (is_set (i := 7) sc_l_due.nd rfl (by first | exact Or.inl rfl | exact Or.inr rfl) (ie_disp (ips_cons (ie_str (by decide +kernel)) (ie_var (pv 6)) (ips_cons (ie_str (by decide +kernel)) (ie_orV (ie_var (pv 6)) (ie_one (ie_var (pv 3)))) (ips_cons (ie_str (by decide +kernel)) (ie_andV (ie_notV (ie_var (pv 6))) (ie_one (ie_notV (ie_var (pv 3))))) (ips_cons (ie_str (by decide +kernel)) (ie_notV (ie_var (pv 6))) ips_nil)))) rfl rfl (by simp) (by decide)))
      (iss_one (is_ret (ie_tup (ia_cons (ie_str (by decide +kernel)) (ia_cons (ie_tup (ia_cons (ie_str (by decide +kernel)) (ia_cons (ie_ix hu (ie_var (pv 7)) (ie_var (pv 0)) (fun _ _ => rfl)) ia_nil))) ia_nil))))))) iss_nil)
      (iss_cons (is_if (it_cmp (cm_eq hu) (ie_var (pv 4)) (ie_tup (ia_cons (ie_str (by decide +kernel)) (ia_cons (ie_str (by decide +kernel)) ia_nil))) (nomark _) bl_eq) (iss_one (is_ret (ie_call (fact_l_numbers T) (hr.mono (by decide)) rfl (ia_cons (ie_var (pv 0)) (ia_cons (ie_ix hu (ie_var (pv 1)) ie_int (fun _ _ => rfl)) (ia_cons (ie_ix hu (ie_var (pv 2)) ie_int (fun _ _ => rfl)) ia_nil)))))) iss_nil)
      (iss_cons (is_if (it_cmp (cm_ne hu) (ie_var (pv 0)) (ie_str (by decide +kernel)) (nomark _) bl_ne) (iss_one (is_ret (ie_tup (ia_cons (ie_str (by decide +kernel)) (ia_cons (ie_str (by decide +kernel)) ia_nil))))) iss_nil)
      (iss_one (is_ret (ie_if (it_cmp cm_lt (ie_len rfl T.b_len (ia_cons (ie_add (ie_ix hu (ie_var (pv 1)) ie_int (fun _ _ => rfl)) (ie_ix hu (ie_var (pv 2)) ie_int (fun _ _ => rfl))) ia_nil)) ie_int (nomark _) bl_ord) (ie_tup (ia_cons (ie_str (by decide +kernel)) (ia_cons (ie_tup (ia_cons (ie_str (by decide +kernel)) (ia_cons (ie_add (ie_ix hu (ie_var (pv 1)) ie_int (fun _ _ => rfl)) (ie_ix hu (ie_var (pv 2)) ie_int (fun _ _ => rfl))) ia_nil))) ia_nil))) (ie_tup (ia_cons (ie_str (by decide +kernel)) (ia_cons (ie_str (by decide +kernel)) ia_nil))))))))))))))
/-! ### _law_right -/
noncomputable def uF_l_right_1 : MS :=
    (sIf (tNot (tOf (eCall (F_l_same 40) (aCons (eCall F_two (aCons (eVar 2) (aCons (eVar 0) (aCons (eVar 1) aNil)))) (aCons (eCall F_l_due (aCons (eVar 2) (aCons (eVar 0) (aCons (eVar 1) aNil)))) aNil))))) (sRet (eC (.bl false))) sNext)
noncomputable def b_l_right : MS :=
    (sSeq (sFor (iV (eTup (aCons (eC (.str [43])) (aCons (eC (.str [45])) (aCons (eC (.str [42])) (aCons (eC (.str [47, 47])) (aCons (eC (.str [38])) (aCons (eC (.str [124])) (aCons (eC (.str [60])) (aCons (eC (.str [60, 61])) (aCons (eC (.str [62])) (aCons (eC (.str [62, 61])) (aCons (eC (.str [61, 61])) (aCons (eC (.str [33, 61])) aNil)))))))))))))) (mName 2) uF_l_right_1)
    (sSeq (sSet 3 (eIf (tOf (eBin kEq (eBin kIx (eVar 0) (eC (.int 0))) (eC (.str [110, 117, 109, 98, 101, 114])))) (eTup (aCons (eC (.str [118, 97, 108, 117, 101])) (aCons (eTup (aCons (eC (.str [110, 117, 109, 98, 101, 114])) (aCons (eBin opSub (eC (.int 0)) (eBin kIx (eVar 0) (eC (.int 1)))) aNil))) aNil))) (eTup (aCons (eC (.str [102, 97, 117, 108, 116])) (aCons (eC (.str [75, 105, 110, 100, 70, 97, 117, 108, 116])) aNil)))))
    (sSeq (sSet 4 (eOr (eBin kEq (eBin kIx (eVar 0) (eC (.int 0))) (eC (.str [110, 111, 110, 101]))) (eOr (eAnd (eBin kEq (eBin kIx (eVar 0) (eC (.int 0))) (eC (.str [116, 114, 117, 116, 104]))) (eNot (eBin kIx (eVar 0) (eC (.int 1))))) (eOr (eAnd (eBin kEq (eBin kIx (eVar 0) (eC (.int 0))) (eC (.str [110, 117, 109, 98, 101, 114]))) (eBin kEq (eBin kIx (eVar 0) (eC (.int 1))) (eC (.int 0)))) (eBin kEq (eVar 0) (eTup (aCons (eC (.str [116, 101, 120, 116])) (aCons (eC (.str [])) aNil))))))))
    (sRet (eAnd (eCall (F_l_same 40) (aCons (eCall F_minus (aCons (eVar 0) aNil)) (aCons (eVar 3) aNil))) (eCall (F_l_same 40) (aCons (eCall F_is_wanting (aCons (eVar 0) aNil)) (aCons (eVar 4) aNil))))))))
noncomputable def F_l_right : FN := mkFn 5 2 b_l_right
theorem fact_l_right (T : Txt K mg) : FnFact P w K mg base cad "_law_right" 42 [] F_l_right := by
  exact fn_fact (k := 41) (N := N_l_right) T.f_l_right sc_l_right fun fa cdv A outer s H E hr => by
    have hu := hr.units
    exact
      (iss_cons (is_for PassesOwn.never rfl (ii_v (ie_tup (ia_cons (ie_str (by decide +kernel)) (ia_cons (ie_str (by decide +kernel)) (ia_cons (ie_str (by decide +kernel)) (ia_cons (ie_str (by decide +kernel)) (ia_cons (ie_str (by decide +kernel)) (ia_cons (ie_str (by decide +kernel)) (ia_cons (ie_str (by decide +kernel)) (ia_cons (ie_str (by decide +kernel)) (ia_cons (ie_str (by decide +kernel)) (ia_cons (ie_str (by decide +kernel)) (ia_cons (ie_str (by decide +kernel)) (ia_cons (ie_str (by decide +kernel)) ia_nil)))))))))))))) (ig_name (i := 2) sc_l_right.nd rfl (by first | exact Or.inl rfl | exact Or.inr rfl)) (iss_one (is_if (it_not (it_of (ie_call (fact_l_same T 40) (hr.mono (by decide)) rfl (ia_cons (ie_call (fact_two T) (hr.mono (by decide)) rfl (ia_cons (ie_var (pv 2)) (ia_cons (ie_var (pv 0)) (ia_cons (ie_var (pv 1)) ia_nil)))) (ia_cons (ie_call (fact_l_due T) (hr.mono (by decide)) rfl (ia_cons (ie_var (pv 2)) (ia_cons (ie_var (pv 0)) (ia_cons (ie_var (pv 1)) ia_nil)))) ia_nil))))) (iss_one (is_ret ie_bl)) iss_nil)))
      (iss_cons (is_set (i := 3) sc_l_right.nd rfl (by first | exact Or.inl rfl | exact Or.inr rfl) (ie_if (it_cmp (cm_eq hu) (ie_ix hu (ie_var (pv 0)) ie_int (fun _ _ => rfl)) (ie_str (by decide +kernel)) (nomark _) bl_eq) (ie_tup (ia_cons (ie_str (by decide +kernel)) (ia_cons (ie_tup (ia_cons (ie_str (by decide +kernel)) (ia_cons (ie_sub ie_int (ie_ix hu (ie_var (pv 0)) ie_int (fun _ _ => rfl))) ia_nil))) ia_nil))) (ie_tup (ia_cons (ie_str (by decide +kernel)) (ia_cons (ie_str (by decide +kernel)) ia_nil)))))
      (iss_cons (is_set (i := 4) sc_l_right.nd rfl (by first | exact Or.inl rfl | exact Or.inr rfl) (ie_orV (ie_cmp (cm_eq hu) (ie_ix hu (ie_var (pv 0)) ie_int (fun _ _ => rfl)) (ie_str (by decide +kernel)) (nomark _)) (ie_orV (ie_andV (ie_cmp (cm_eq hu) (ie_ix hu (ie_var (pv 0)) ie_int (fun _ _ => rfl)) (ie_str (by decide +kernel)) (nomark _)) (ie_one (ie_notV (ie_ix hu (ie_var (pv 0)) ie_int (fun _ _ => rfl))))) (ie_orV (ie_andV (ie_cmp (cm_eq hu) (ie_ix hu (ie_var (pv 0)) ie_int (fun _ _ => rfl)) (ie_str (by decide +kernel)) (nomark _)) (ie_one (ie_cmp (cm_eq hu) (ie_ix hu (ie_var (pv 0)) ie_int (fun _ _ => rfl)) ie_int (nomark _)))) (ie_one (ie_cmp (cm_eq hu) (ie_var (pv 0)) (ie_tup (ia_cons (ie_str (by decide +kernel)) (ia_cons (ie_str (by decide +kernel)) ia_nil))) (nomark _)))))))
      (iss_one (is_ret (ie_andV (ie_call (fact_l_same T 40) (hr.mono (by decide)) rfl (ia_cons (ie_call (fact_minus T) (hr.mono (by decide)) rfl (ia_cons (ie_var (pv 0)) ia_nil)) (ia_cons (ie_var (pv 3)) ia_nil))) (ie_one (ie_call (fact_l_same T 40) (hr.mono (by decide)) rfl (ia_cons (ie_call (fact_is_wanting T) (hr.mono (by decide)) rfl (ia_cons (ie_var (pv 0)) ia_nil)) (ia_cons (ie_var (pv 4)) ia_nil))))))))))
/-! ### law -/
noncomputable def uF_law_1 : MS :=
    (sSeq (sSet 4 (eCall F_l_cell (aCons (eVar 1) (aCons (eVar 2) aNil))))
    (sSeq (sSet 5 (eIf (tOf (eBin kGt (eBin opMod (eBin opDiv (eVar 4) (eC (.int 5))) (eC (.int 3))) (eC (.int 0)))) (eBin opMod (eVar 4) (eC (.int 5))) (eBin opMod (eBin opDiv (eVar 4) (eC (.int 15))) (eC (.int 2)))))
    (sSeq (sSet 6 (eCall F_l_value (aCons (eCall F_l_cell (aCons (eVar 1) (aCons (eVar 2) aNil))) (aCons (eVar 5) aNil))))
    (sSeq (sSet 7 (eCall F_l_value (aCons (eCall F_l_cell (aCons (eVar 1) (aCons (eVar 2) aNil))) (aCons (eIf (tOf (eBin kGt (eBin opMod (eBin opDiv (eVar 4) (eC (.int 30))) (eC (.int 3))) (eC (.int 0)))) (eVar 5) (eBin opMod (eBin opDiv (eVar 4) (eC (.int 90))) (eC (.int 5)))) aNil))))
    (sSeq (sIf (tOf (eBin kEq (eBin opMod (eBin opDiv (eVar 4) (eC (.int 450))) (eC (.int 7))) (eC (.int 1)))) (sSet 7 (eVar 6)) sNext)
    (sSeq (sIf (tAnd (tOf (eBin kEq (eBin opMod (eBin opDiv (eVar 4) (eC (.int 450))) (eC (.int 7))) (eC (.int 2)))) (tOf (eBin kEq (eBin kIx (eVar 6) (eC (.int 0))) (eC (.str [116, 101, 120, 116]))))) (sSet 7 (eTup (aCons (eC (.str [116, 101, 120, 116])) (aCons (eSl (eBin kIx (eVar 6) (eC (.int 1))) oNone (oSome (eBin opMod (eBin opDiv (eVar 4) (eC (.int 3150))) (eBin opAdd (eCall (o1 lenO) (aCons (eBin kIx (eVar 6) (eC (.int 1))) aNil)) (eC (.int 1)))))) aNil)))) sNext)
    (sSeq (sIf (tAnd (tOf (eBin kGt (eBin opMod (eBin opDiv (eVar 4) (eC (.int 450))) (eC (.int 7))) (eC (.int 4)))) (tAnd (tOf (eBin kEq (eBin kIx (eVar 6) (eC (.int 0))) (eC (.str [116, 101, 120, 116])))) (tOf (eBin kNe (eBin kIx (eVar 6) (eC (.int 1))) (eC (.str [])))))) (sSeq (sSet 8 (eBin opMod (eBin opDiv (eVar 4) (eC (.int 3150))) (eCall (o1 lenO) (aCons (eBin kIx (eVar 6) (eC (.int 1))) aNil))))
    (sSet 7 (eTup (aCons (eC (.str [116, 101, 120, 116])) (aCons (eBin opAdd (eBin opAdd (eSl (eBin kIx (eVar 6) (eC (.int 1))) oNone (oSome (eVar 8))) (eBin kIx (eC (.str [126, 33])) (eCall (o1 intO) (aCons (eBin kEq (eBin kIx (eBin kIx (eVar 6) (eC (.int 1))) (eVar 8)) (eC (.str [126]))) aNil)))) (eSl (eBin kIx (eVar 6) (eC (.int 1))) (oSome (eBin opAdd (eVar 8) (eC (.int 1)))) oNone)) aNil))))) sNext)
    (sIf (tOr (tNot (tOf (eCall F_l_right (aCons (eVar 6) (aCons (eVar 7) aNil))))) (tNot (tOf (eCall F_l_right (aCons (eVar 7) (aCons (eVar 6) aNil)))))) (sRet (eC (.bl false))) sNext))))))))
noncomputable def b_law : MS :=
    (sSeq (sSet 1 (eSl (eVar 0) (oSome (eC (.int 1))) (oSome (eC (.int 40)))))
    (sSeq (sSet 2 (eLst (aCons (eC (.int 0)) aNil)))
    (sSeq (sFor (iR1 (aCons (eC (.int 8)) aNil)) (mName 3) uF_law_1)
    (sSeq (sSet 9 (eBin opAdd (eC (.str [99, 117, 115, 116, 111, 109, 101, 114, 32, 110, 117, 109, 98, 101, 114, 32])) (eBin opMul (eC (.str [120])) (eBin opMod (eCall F_l_cell_at (aCons (eVar 0) (aCons (eC (.int 0)) aNil))) (eC (.int 180))))))
    (sSeq (sIf (tNot (tOf (eCall F_l_right (aCons (eTup (aCons (eC (.str [116, 101, 120, 116])) (aCons (eBin opAdd (eVar 9) (eC (.str [49]))) aNil))) (aCons (eTup (aCons (eC (.str [116, 101, 120, 116])) (aCons (eBin opAdd (eVar 9) (eC (.str [50]))) aNil))) aNil))))) (sRet (eC (.bl false))) sNext)
    (sRet (eCall F_l_right (aCons (eTup (aCons (eC (.str [116, 114, 117, 116, 104])) (aCons (eBin kEq (eBin opMod (eCall F_l_cell_at (aCons (eVar 0) (aCons (eC (.int 0)) aNil))) (eC (.int 2))) (eC (.int 1))) aNil))) (aCons (eTup (aCons (eC (.str [110, 117, 109, 98, 101, 114])) (aCons (eBin opMod (eCall F_l_cell_at (aCons (eVar 0) (aCons (eC (.int 0)) aNil))) (eC (.int 2))) aNil))) aNil)))))))))
noncomputable def F_law : FN := mkFn 10 1 b_law
theorem ok_law (T : Txt K mg) {f : Addr} {fd : FuncData} (F : Fun K "law" "law" s_law f fd) : FnOk P w K mg base CX0 43 f fd ["_law_script"] (spOf K cad F_law) := by
  exact fn_ok (k := 42) (N := N_law) F sc_law fun cdv A outer s H E hr => by
    have hu := hr.units
    exact
      (iss_cons (is_set (i := 1) sc_law.nd rfl (by first | exact Or.inl rfl | exact Or.inr rfl) (ie_sl (ie_var (pv 0)) (io_some ie_int) (io_some ie_int)))
      (iss_cons (is_set (i := 2) sc_law.nd rfl (by first | exact Or.inl rfl | exact Or.inr rfl) (ie_lst (ia_cons ie_int ia_nil)))
      (iss_cons (is_for PassesOwn.never rfl (ii_r1 rfl T.b_range (ia_cons ie_int ia_nil)) (ig_name (i := 3) sc_law.nd rfl (by first | exact Or.inl rfl | exact Or.inr rfl)) (iss_cons (is_set (i := 4) sc_law.nd rfl (by first | exact Or.inl rfl | exact Or.inr rfl) (ie_call (fact_l_cell T) (hr.mono (by decide)) rfl (ia_cons (ie_var (pv 1)) (ia_cons (ie_var (pv 2)) ia_nil))))
      (iss_cons (is_set (i := 5) sc_law.nd rfl (by first | exact Or.inl rfl | exact Or.inr rfl) (ie_if (it_cmp cm_gt (ie_mod (ie_div (ie_var (pv 4)) ie_int) ie_int) ie_int (nomark _) bl_ord) (ie_mod (ie_var (pv 4)) ie_int) (ie_mod (ie_div (ie_var (pv 4)) ie_int) ie_int)))
      (iss_cons (is_set (i := 6) sc_law.nd rfl (by first | exact Or.inl rfl | exact Or.inr rfl) (ie_call (fact_l_value T) (hr.mono (by decide)) rfl (ia_cons (ie_call (fact_l_cell T) (hr.mono (by decide)) rfl (ia_cons (ie_var (pv 1)) (ia_cons (ie_var (pv 2)) ia_nil))) (ia_cons (ie_var (pv 5)) ia_nil))))
      (iss_cons (is_set (i := 7) sc_law.nd rfl (by first | exact Or.inl rfl | exact Or.inr rfl) (ie_call (fact_l_value T) (hr.mono (by decide)) rfl (ia_cons (ie_call (fact_l_cell T) (hr.mono (by decide)) rfl (ia_cons (ie_var (pv 1)) (ia_cons (ie_var (pv 2)) ia_nil))) (ia_cons (ie_if (it_cmp cm_gt (ie_mod (ie_div (ie_var (pv 4)) ie_int) ie_int) ie_int (nomark _) bl_ord) (ie_var (pv 5)) (ie_mod (ie_div (ie_var (pv 4)) ie_int) ie_int)) ia_nil))))
      (iss_cons (is_if (it_cmp (cm_eq hu) (ie_mod (ie_div (ie_var (pv 4)) ie_int) ie_int) ie_int (nomark _) bl_eq) (iss_one (is_set (i := 7) sc_law.nd rfl (by first | exact Or.inl rfl | exact Or.inr rfl) (ie_var (pv 6)))) iss_nil)
      (iss_cons (is_if (it_bool (iw_and (it_cmp (cm_eq hu) (ie_mod (ie_div (ie_var (pv 4)) ie_int) ie_int) ie_int (nomark _) bl_eq) (iw_and1 (it_cmp (cm_eq hu) (ie_ix hu (ie_var (pv 6)) ie_int (fun _ _ => rfl)) (ie_str (by decide +kernel)) (nomark _) bl_eq)))) (iss_one (is_set (i := 7) sc_law.nd rfl (by first | exact Or.inl rfl | exact Or.inr rfl) (ie_tup (ia_cons (ie_str (by decide +kernel)) (ia_cons (ie_sl (ie_ix hu (ie_var (pv 6)) ie_int (fun _ _ => rfl)) io_none (io_some (ie_mod (ie_div (ie_var (pv 4)) ie_int) (ie_add (ie_len rfl T.b_len (ia_cons (ie_ix hu (ie_var (pv 6)) ie_int (fun _ _ => rfl)) ia_nil)) ie_int)))) ia_nil))))) iss_nil)
      (iss_cons (is_if (it_bool (iw_and (it_cmp cm_gt (ie_mod (ie_div (ie_var (pv 4)) ie_int) ie_int) ie_int (nomark _) bl_ord) (iw_and (it_cmp (cm_eq hu) (ie_ix hu (ie_var (pv 6)) ie_int (fun _ _ => rfl)) (ie_str (by decide +kernel)) (nomark _) bl_eq) (iw_and1 (it_cmp (cm_ne hu) (ie_ix hu (ie_var (pv 6)) ie_int (fun _ _ => rfl)) (ie_str (by decide +kernel)) (nomark _) bl_ne))))) (iss_cons (is_set (i := 8) sc_law.nd rfl (by first | exact Or.inl rfl | exact Or.inr rfl) (ie_mod (ie_div (ie_var (pv 4)) ie_int) (ie_len rfl T.b_len (ia_cons (ie_ix hu (ie_var (pv 6)) ie_int (fun _ _ => rfl)) ia_nil))))
      (iss_one (is_set (i := 7) sc_law.nd rfl (by first | exact Or.inl rfl | exact Or.inr rfl) (ie_tup (ia_cons (ie_str (by decide +kernel)) (ia_cons (ie_add (ie_add (ie_sl (ie_ix hu (ie_var (pv 6)) ie_int (fun _ _ => rfl)) io_none (io_some (ie_var (pv 8)))) (ie_ix hu (ie_str (by decide +kernel)) (ie_toInt rfl T.b_int (ia_cons (ie_cmp (cm_eq hu) (ie_ix hu (ie_ix hu (ie_var (pv 6)) ie_int (fun _ _ => rfl)) (ie_var (pv 8)) (fun _ _ => rfl)) (ie_str (by decide +kernel)) (nomark _)) ia_nil)) (fun _ _ => rfl))) (ie_sl (ie_ix hu (ie_var (pv 6)) ie_int (fun _ _ => rfl)) (io_some (ie_add (ie_var (pv 8)) ie_int)) io_none)) ia_nil)))))) iss_nil)
      (iss_one (is_if (it_bool (iw_or (it_not (it_of (ie_call (fact_l_right T) (hr.mono (by decide)) rfl (ia_cons (ie_var (pv 6)) (ia_cons (ie_var (pv 7)) ia_nil))))) (iw_or1 (it_not (it_of (ie_call (fact_l_right T) (hr.mono (by decide)) rfl (ia_cons (ie_var (pv 7)) (ia_cons (ie_var (pv 6)) ia_nil)))))))) (iss_one (is_ret ie_bl)) iss_nil))))))))))
      (iss_cons (is_set (i := 9) sc_law.nd rfl (by first | exact Or.inl rfl | exact Or.inr rfl) (ie_add (ie_str (by decide +kernel)) (ie_mul (ie_str (by decide +kernel)) (ie_mod (ie_call (fact_l_cell_at T) (hr.mono (by decide)) rfl (ia_cons (ie_var (pv 0)) (ia_cons ie_int ia_nil))) ie_int))))
      (iss_cons (is_if (it_not (it_of (ie_call (fact_l_right T) (hr.mono (by decide)) rfl (ia_cons (ie_tup (ia_cons (ie_str (by decide +kernel)) (ia_cons (ie_add (ie_var (pv 9)) (ie_str (by decide +kernel))) ia_nil))) (ia_cons (ie_tup (ia_cons (ie_str (by decide +kernel)) (ia_cons (ie_add (ie_var (pv 9)) (ie_str (by decide +kernel))) ia_nil))) ia_nil))))) (iss_one (is_ret ie_bl)) iss_nil)
      (iss_one (is_ret (ie_call (fact_l_right T) (hr.mono (by decide)) rfl (ia_cons (ie_tup (ia_cons (ie_str (by decide +kernel)) (ia_cons (ie_cmp (cm_eq hu) (ie_mod (ie_call (fact_l_cell_at T) (hr.mono (by decide)) rfl (ia_cons (ie_var (pv 0)) (ia_cons ie_int ia_nil))) ie_int) ie_int (nomark _)) ia_nil))) (ia_cons (ie_tup (ia_cons (ie_str (by decide +kernel)) (ia_cons (ie_mod (ie_call (fact_l_cell_at T) (hr.mono (by decide)) rfl (ia_cons (ie_var (pv 0)) (ia_cons ie_int ia_nil))) ie_int) ia_nil))) ia_nil))))))))))
theorem all_mk {l : PySem.W.OpenLaw} {w : World} {K : PySem.W.Frag} {h : Heap} {mg : Str → Option Value} {fa : Addr} (X : K.In h) (G : h.Ns mainGlobals mg) (hfa : mg "law" = some (.ref fa))
    {f0 : Addr} {od0 an0 : Option Addr} {sl0 : Array (Option Value)} {oc0 kV0 dc0 pm0 cd0 ct0 : Value}
    {f1 : Addr} {od1 an1 : Option Addr} {sl1 : Array (Option Value)} {oc1 kV1 dc1 pm1 cd1 ct1 : Value}
    {f2 : Addr} {od2 an2 : Option Addr} {sl2 : Array (Option Value)} {oc2 kV2 dc2 pm2 cd2 ct2 : Value}
    {f3 : Addr} {od3 an3 : Option Addr} {sl3 : Array (Option Value)} {oc3 kV3 dc3 pm3 cd3 ct3 : Value}
    {f4 : Addr} {od4 an4 : Option Addr} {sl4 : Array (Option Value)} {oc4 kV4 dc4 pm4 cd4 ct4 : Value}
    {f5 : Addr} {od5 an5 : Option Addr} {sl5 : Array (Option Value)} {oc5 kV5 dc5 pm5 cd5 ct5 : Value}
    {f6 : Addr} {od6 an6 : Option Addr} {sl6 : Array (Option Value)} {oc6 kV6 dc6 pm6 cd6 ct6 : Value}
    {f7 : Addr} {od7 an7 : Option Addr} {sl7 : Array (Option Value)} {oc7 kV7 dc7 pm7 cd7 ct7 : Value}
    {f8 : Addr} {od8 an8 : Option Addr} {sl8 : Array (Option Value)} {oc8 kV8 dc8 pm8 cd8 ct8 : Value}
    {f9 : Addr} {od9 an9 : Option Addr} {sl9 : Array (Option Value)} {oc9 kV9 dc9 pm9 cd9 ct9 : Value}
    {f10 : Addr} {od10 an10 : Option Addr} {sl10 : Array (Option Value)} {oc10 kV10 dc10 pm10 cd10 ct10 : Value}
    {f11 : Addr} {od11 an11 : Option Addr} {sl11 : Array (Option Value)} {oc11 kV11 dc11 pm11 cd11 ct11 : Value}
    {f12 : Addr} {od12 an12 : Option Addr} {sl12 : Array (Option Value)} {oc12 kV12 dc12 pm12 cd12 ct12 : Value}
    {f13 : Addr} {od13 an13 : Option Addr} {sl13 : Array (Option Value)} {oc13 kV13 dc13 pm13 cd13 ct13 : Value}
    {f14 : Addr} {od14 an14 : Option Addr} {sl14 : Array (Option Value)} {oc14 kV14 dc14 pm14 cd14 ct14 : Value}
    {f15 : Addr} {od15 an15 : Option Addr} {sl15 : Array (Option Value)} {oc15 kV15 dc15 pm15 cd15 ct15 : Value}
    {f16 : Addr} {od16 an16 : Option Addr} {sl16 : Array (Option Value)} {oc16 kV16 dc16 pm16 cd16 ct16 : Value}
    {f17 : Addr} {od17 an17 : Option Addr} {sl17 : Array (Option Value)} {oc17 kV17 dc17 pm17 cd17 ct17 : Value}
    {f18 : Addr} {od18 an18 : Option Addr} {sl18 : Array (Option Value)} {oc18 kV18 dc18 pm18 cd18 ct18 : Value}
    {f19 : Addr} {od19 an19 : Option Addr} {sl19 : Array (Option Value)} {oc19 kV19 dc19 pm19 cd19 ct19 : Value}
    {f20 : Addr} {od20 an20 : Option Addr} {sl20 : Array (Option Value)} {oc20 kV20 dc20 pm20 cd20 ct20 : Value}
    (a0 : PySem.W.nsIn K mainGlobals "truth_answer" = some (some (.ref f0))) (l0 : K.lookup f0 = some ⟨oc0, od0, .func (PySem.W.fnOf "truth_answer" "truth_answer" (defArgs s_truth_answer) (defBody s_truth_answer) (defScope s_truth_answer) .none kV0 dc0 pm0 an0 cd0 ct0), sl0⟩) (c0 : PySem.W.codeIn K cd0 "truth_answer" = true) (k0 : PySem.W.keepIn K (.ref f0) = true)
    (a1 : PySem.W.nsIn K mainGlobals "number_answer" = some (some (.ref f1))) (l1 : K.lookup f1 = some ⟨oc1, od1, .func (PySem.W.fnOf "number_answer" "number_answer" (defArgs s_number_answer) (defBody s_number_answer) (defScope s_number_answer) .none kV1 dc1 pm1 an1 cd1 ct1), sl1⟩) (c1 : PySem.W.codeIn K cd1 "number_answer" = true) (k1 : PySem.W.keepIn K (.ref f1) = true)
    (a2 : PySem.W.nsIn K mainGlobals "compared" = some (some (.ref f2))) (l2 : K.lookup f2 = some ⟨oc2, od2, .func (PySem.W.fnOf "compared" "compared" (defArgs s_compared) (defBody s_compared) (defScope s_compared) .none kV2 dc2 pm2 an2 cd2 ct2), sl2⟩) (c2 : PySem.W.codeIn K cd2 "compared" = true) (k2 : PySem.W.keepIn K (.ref f2) = true)
    (a3 : PySem.W.nsIn K mainGlobals "two_numbers" = some (some (.ref f3))) (l3 : K.lookup f3 = some ⟨oc3, od3, .func (PySem.W.fnOf "two_numbers" "two_numbers" (defArgs s_two_numbers) (defBody s_two_numbers) (defScope s_two_numbers) .none kV3 dc3 pm3 an3 cd3 ct3), sl3⟩) (c3 : PySem.W.codeIn K cd3 "two_numbers" = true) (k3 : PySem.W.keepIn K (.ref f3) = true)
    (a4 : PySem.W.nsIn K mainGlobals "two_texts" = some (some (.ref f4))) (l4 : K.lookup f4 = some ⟨oc4, od4, .func (PySem.W.fnOf "two_texts" "two_texts" (defArgs s_two_texts) (defBody s_two_texts) (defScope s_two_texts) .none kV4 dc4 pm4 an4 cd4 ct4), sl4⟩) (c4 : PySem.W.codeIn K cd4 "two_texts" = true) (k4 : PySem.W.keepIn K (.ref f4) = true)
    (a5 : PySem.W.nsIn K mainGlobals "two" = some (some (.ref f5))) (l5 : K.lookup f5 = some ⟨oc5, od5, .func (PySem.W.fnOf "two" "two" (defArgs s_two) (defBody s_two) (defScope s_two) .none kV5 dc5 pm5 an5 cd5 ct5), sl5⟩) (c5 : PySem.W.codeIn K cd5 "two" = true) (k5 : PySem.W.keepIn K (.ref f5) = true)
    (a6 : PySem.W.nsIn K mainGlobals "minus" = some (some (.ref f6))) (l6 : K.lookup f6 = some ⟨oc6, od6, .func (PySem.W.fnOf "minus" "minus" (defArgs s_minus) (defBody s_minus) (defScope s_minus) .none kV6 dc6 pm6 an6 cd6 ct6), sl6⟩) (c6 : PySem.W.codeIn K cd6 "minus" = true) (k6 : PySem.W.keepIn K (.ref f6) = true)
    (a7 : PySem.W.nsIn K mainGlobals "is_wanting" = some (some (.ref f7))) (l7 : K.lookup f7 = some ⟨oc7, od7, .func (PySem.W.fnOf "is_wanting" "is_wanting" (defArgs s_is_wanting) (defBody s_is_wanting) (defScope s_is_wanting) .none kV7 dc7 pm7 an7 cd7 ct7), sl7⟩) (c7 : PySem.W.codeIn K cd7 "is_wanting" = true) (k7 : PySem.W.keepIn K (.ref f7) = true)
    (a8 : PySem.W.nsIn K mainGlobals "_law_cell_at" = some (some (.ref f8))) (l8 : K.lookup f8 = some ⟨oc8, od8, .func (PySem.W.fnOf "_law_cell_at" "_law_cell_at" (defArgs s_l_cell_at) (defBody s_l_cell_at) (defScope s_l_cell_at) .none kV8 dc8 pm8 an8 cd8 ct8), sl8⟩) (c8 : PySem.W.codeIn K cd8 "_law_cell_at" = true) (k8 : PySem.W.keepIn K (.ref f8) = true)
    (a9 : PySem.W.nsIn K mainGlobals "_law_cell" = some (some (.ref f9))) (l9 : K.lookup f9 = some ⟨oc9, od9, .func (PySem.W.fnOf "_law_cell" "_law_cell" (defArgs s_l_cell) (defBody s_l_cell) (defScope s_l_cell) .none kV9 dc9 pm9 an9 cd9 ct9), sl9⟩) (c9 : PySem.W.codeIn K cd9 "_law_cell" = true) (k9 : PySem.W.keepIn K (.ref f9) = true)
    (a10 : PySem.W.nsIn K mainGlobals "_law_same" = some (some (.ref f10))) (l10 : K.lookup f10 = some ⟨oc10, od10, .func (PySem.W.fnOf "_law_same" "_law_same" (defArgs s_l_same) (defBody s_l_same) (defScope s_l_same) .none kV10 dc10 pm10 an10 cd10 ct10), sl10⟩) (c10 : PySem.W.codeIn K cd10 "_law_same" = true) (k10 : PySem.W.keepIn K (.ref f10) = true)
    (a11 : PySem.W.nsIn K mainGlobals "_law_figure" = some (some (.ref f11))) (l11 : K.lookup f11 = some ⟨oc11, od11, .func (PySem.W.fnOf "_law_figure" "_law_figure" (defArgs s_l_figure) (defBody s_l_figure) (defScope s_l_figure) .none kV11 dc11 pm11 an11 cd11 ct11), sl11⟩) (c11 : PySem.W.codeIn K cd11 "_law_figure" = true) (k11 : PySem.W.keepIn K (.ref f11) = true)
    (a12 : PySem.W.nsIn K mainGlobals "_law_text" = some (some (.ref f12))) (l12 : K.lookup f12 = some ⟨oc12, od12, .func (PySem.W.fnOf "_law_text" "_law_text" (defArgs s_l_text) (defBody s_l_text) (defScope s_l_text) .none kV12 dc12 pm12 an12 cd12 ct12), sl12⟩) (c12 : PySem.W.codeIn K cd12 "_law_text" = true) (k12 : PySem.W.keepIn K (.ref f12) = true)
    (a13 : PySem.W.nsIn K mainGlobals "_law_value" = some (some (.ref f13))) (l13 : K.lookup f13 = some ⟨oc13, od13, .func (PySem.W.fnOf "_law_value" "_law_value" (defArgs s_l_value) (defBody s_l_value) (defScope s_l_value) .none kV13 dc13 pm13 an13 cd13 ct13), sl13⟩) (c13 : PySem.W.codeIn K cd13 "_law_value" = true) (k13 : PySem.W.keepIn K (.ref f13) = true)
    (a14 : PySem.W.nsIn K mainGlobals "_law_divided" = some (some (.ref f14))) (l14 : K.lookup f14 = some ⟨oc14, od14, .func (PySem.W.fnOf "_law_divided" "_law_divided" (defArgs s_l_divided) (defBody s_l_divided) (defScope s_l_divided) .none kV14 dc14 pm14 an14 cd14 ct14), sl14⟩) (c14 : PySem.W.codeIn K cd14 "_law_divided" = true) (k14 : PySem.W.keepIn K (.ref f14) = true)
    (a15 : PySem.W.nsIn K mainGlobals "_law_bits" = some (some (.ref f15))) (l15 : K.lookup f15 = some ⟨oc15, od15, .func (PySem.W.fnOf "_law_bits" "_law_bits" (defArgs s_l_bits) (defBody s_l_bits) (defScope s_l_bits) .none kV15 dc15 pm15 an15 cd15 ct15), sl15⟩) (c15 : PySem.W.codeIn K cd15 "_law_bits" = true) (k15 : PySem.W.keepIn K (.ref f15) = true)
    (a16 : PySem.W.nsIn K mainGlobals "_law_number" = some (some (.ref f16))) (l16 : K.lookup f16 = some ⟨oc16, od16, .func (PySem.W.fnOf "_law_number" "_law_number" (defArgs s_l_number) (defBody s_l_number) (defScope s_l_number) .none kV16 dc16 pm16 an16 cd16 ct16), sl16⟩) (c16 : PySem.W.codeIn K cd16 "_law_number" = true) (k16 : PySem.W.keepIn K (.ref f16) = true)
    (a17 : PySem.W.nsIn K mainGlobals "_law_numbers" = some (some (.ref f17))) (l17 : K.lookup f17 = some ⟨oc17, od17, .func (PySem.W.fnOf "_law_numbers" "_law_numbers" (defArgs s_l_numbers) (defBody s_l_numbers) (defScope s_l_numbers) .none kV17 dc17 pm17 an17 cd17 ct17), sl17⟩) (c17 : PySem.W.codeIn K cd17 "_law_numbers" = true) (k17 : PySem.W.keepIn K (.ref f17) = true)
    (a18 : PySem.W.nsIn K mainGlobals "_law_due" = some (some (.ref f18))) (l18 : K.lookup f18 = some ⟨oc18, od18, .func (PySem.W.fnOf "_law_due" "_law_due" (defArgs s_l_due) (defBody s_l_due) (defScope s_l_due) .none kV18 dc18 pm18 an18 cd18 ct18), sl18⟩) (c18 : PySem.W.codeIn K cd18 "_law_due" = true) (k18 : PySem.W.keepIn K (.ref f18) = true)
    (a19 : PySem.W.nsIn K mainGlobals "_law_right" = some (some (.ref f19))) (l19 : K.lookup f19 = some ⟨oc19, od19, .func (PySem.W.fnOf "_law_right" "_law_right" (defArgs s_l_right) (defBody s_l_right) (defScope s_l_right) .none kV19 dc19 pm19 an19 cd19 ct19), sl19⟩) (c19 : PySem.W.codeIn K cd19 "_law_right" = true) (k19 : PySem.W.keepIn K (.ref f19) = true)
    (a20 : PySem.W.nsIn K mainGlobals "law" = some (some (.ref f20))) (l20 : K.lookup f20 = some ⟨oc20, od20, .func (PySem.W.fnOf "law" "law" (defArgs s_law) (defBody s_law) (defScope s_law) .none kV20 dc20 pm20 an20 cd20 ct20), sl20⟩) (c20 : PySem.W.codeIn K cd20 "law" = true) (k20 : PySem.W.keepIn K (.ref f20) = true)
    {t_GREATEST : Tok} (n_GREATEST : PySem.W.nsIn K mainGlobals "GREATEST" = some (some (.int (10 ^ 30) t_GREATEST)))
    {t_MOST_SIGNS : Tok} (n_MOST_SIGNS : PySem.W.nsIn K mainGlobals "MOST_SIGNS" = some (some (.int 200 t_MOST_SIGNS)))
    (z_abs : PySem.W.nsIn K mainGlobals "abs" = some none)
    (z_all : PySem.W.nsIn K mainGlobals "all" = some none)
    (z_bool : PySem.W.nsIn K mainGlobals "bool" = some none)
    (z_int : PySem.W.nsIn K mainGlobals "int" = some none)
    (z_isinstance : PySem.W.nsIn K mainGlobals "isinstance" = some none)
    (z_len : PySem.W.nsIn K mainGlobals "len" = some none)
    (z_list : PySem.W.nsIn K mainGlobals "list" = some none)
    (z_range : PySem.W.nsIn K mainGlobals "range" = some none)
    (z_tuple : PySem.W.nsIn K mainGlobals "tuple" = some none)
    (hlaw : ∀ ns : List Int, ns.length ≤ 63 → ∃ st', F_law [.ref 0] [.fz (ns.map D.int)] = some (.bl true, st')) :
    ∃ fd : FuncData, (∀ (s : Shared) (v : Value), BindsTo s fd ⟨[v], []⟩ [("_law_script", v)]) ∧ ∀ base : Heap, K.In base → base.Ns mainGlobals mg → FnOk l.prog w K mg base CX0 43 fa fd ["_law_script"] (spLaw K) := by
  have e := hfa.symm.trans (PySem.W.mg_of X G a20)
  cases e
  have T : Txt K mg := ⟨PySem.W.mg_none_of X G z_abs, PySem.W.mg_none_of X G z_all, PySem.W.mg_none_of X G z_bool, PySem.W.mg_none_of X G z_int, PySem.W.mg_none_of X G z_isinstance, PySem.W.mg_none_of X G z_len, PySem.W.mg_none_of X G z_list, PySem.W.mg_none_of X G z_range, PySem.W.mg_none_of X G z_tuple, ⟨_, PySem.W.mg_of X G n_GREATEST⟩, ⟨_, PySem.W.mg_of X G n_MOST_SIGNS⟩, fnAt_mk X G a0 l0 c0 k0 (fun _ _ _ _ _ _ us hl => match us, hl with | [_], _ => rfl), fnAt_mk X G a1 l1 c1 k1 (fun _ _ _ _ _ _ us hl => match us, hl with | [_], _ => rfl), fnAt_mk X G a2 l2 c2 k2 (fun _ _ _ _ _ _ us hl => match us, hl with | [_, _, _], _ => rfl), fnAt_mk X G a3 l3 c3 k3 (fun _ _ _ _ _ _ us hl => match us, hl with | [_, _, _], _ => rfl), fnAt_mk X G a4 l4 c4 k4 (fun _ _ _ _ _ _ us hl => match us, hl with | [_, _], _ => rfl), fnAt_mk X G a5 l5 c5 k5 (fun _ _ _ _ _ _ us hl => match us, hl with | [_, _, _], _ => rfl), fnAt_mk X G a6 l6 c6 k6 (fun _ _ _ _ _ _ us hl => match us, hl with | [_], _ => rfl), fnAt_mk X G a7 l7 c7 k7 (fun _ _ _ _ _ _ us hl => match us, hl with | [_], _ => rfl), fnAt_mk X G a8 l8 c8 k8 (fun _ _ _ _ _ _ us hl => match us, hl with | [_, _], _ => rfl), fnAt_mk X G a9 l9 c9 k9 (fun _ _ _ _ _ _ us hl => match us, hl with | [_, _], _ => rfl), fnAt_mk X G a10 l10 c10 k10 (fun _ _ _ _ _ _ us hl => match us, hl with | [_, _], _ => rfl), fnAt_mk X G a11 l11 c11 k11 (fun _ _ _ _ _ _ us hl => match us, hl with | [_], _ => rfl), fnAt_mk X G a12 l12 c12 k12 (fun _ _ _ _ _ _ us hl => match us, hl with | [_], _ => rfl), fnAt_mk X G a13 l13 c13 k13 (fun _ _ _ _ _ _ us hl => match us, hl with | [_, _], _ => rfl), fnAt_mk X G a14 l14 c14 k14 (fun _ _ _ _ _ _ us hl => match us, hl with | [_, _], _ => rfl), fnAt_mk X G a15 l15 c15 k15 (fun _ _ _ _ _ _ us hl => match us, hl with | [_, _, _], _ => rfl), fnAt_mk X G a16 l16 c16 k16 (fun _ _ _ _ _ _ us hl => match us, hl with | [_], _ => rfl), fnAt_mk X G a17 l17 c17 k17 (fun _ _ _ _ _ _ us hl => match us, hl with | [_, _, _], _ => rfl), fnAt_mk X G a18 l18 c18 k18 (fun _ _ _ _ _ _ us hl => match us, hl with | [_, _, _], _ => rfl), fnAt_mk X G a19 l19 c19 k19 (fun _ _ _ _ _ _ us hl => match us, hl with | [_, _], _ => rfl), fnAt_mk X G a20 l20 c20 k20 (fun _ _ _ _ _ _ us hl => match us, hl with | [_], _ => rfl)⟩
  exact ⟨_, fun s v => .of_eq rfl, fun base _ _ => law_imp (cad := fun _ => 0) (ok_law T (fun_mk l20 c20 k20)) hlaw⟩
end
end Text

set_option maxRecDepth 100000
set_option maxHeartbeats 4000000
namespace Math
open MP Text PySem
/-! ### values -/
abbrev vT (b : Bool) : D := .tup [.str [118, 97, 108, 117, 101], .tup [.str [116, 114, 117, 116, 104], .bl b]]
abbrev vN (i : Int) : D := .tup [.str [118, 97, 108, 117, 101], .tup [.str [110, 117, 109, 98, 101, 114], .int i]]
abbrev vS (l : List Nat) : D := .tup [.str [118, 97, 108, 117, 101], .tup [.str [116, 101, 120, 116], .str l]]
abbrev fKind : D := .tup [.str [102, 97, 117, 108, 116], .str [75, 105, 110, 100, 70, 97, 117, 108, 116]]
abbrev fGreat : D := .tup [.str [102, 97, 117, 108, 116], .str [71, 114, 101, 97, 116, 70, 97, 117, 108, 116]]
abbrev fNought : D := .tup [.str [102, 97, 117, 108, 116], .str [78, 111, 117, 103, 104, 116, 70, 97, 117, 108, 116]]
/-- the values of the law -/
inductive W where
  | num (i : Int)
  | txt (l : List Nat)
  | tru (b : Bool)
  | non
  | thing (i : Int)
abbrev W.d : W → D
  | .num i => .tup [.str [110, 117, 109, 98, 101, 114], .int i]
  | .txt l => .tup [.str [116, 101, 120, 116], .str l]
  | .tru b => .tup [.str [116, 114, 117, 116, 104], .bl b]
  | .non => .tup [.str [110, 111, 110, 101]]
  | .thing i => .tup [.str [116, 104, 105, 110, 103], .int i]
def W.ok : W → Prop
  | .num i => -1000000000000000000000000000000 ≤ i ∧ i ≤ 1000000000000000000000000000000
  | .txt l => l.length ≤ 1000
  | _ => True
def alike : W → W → Bool
  | .num i, .num j => i == j
  | .txt l, .txt m => decide (l = m)
  | .tru a, .tru b => a == b
  | .non, .non => true
  | .thing i, .thing j => i == j
  | _, _ => false
theorem mkS_beq (l m : List Nat) : (mkS l == mkS m) = decide (l = m) := by
  by_cases h : l = m
  · subst h
    simp
  · rw [decide_eq_false h]
    exact beq_eq_false_iff_ne.mpr fun z => h (mkS_inj z)
/-- == of the law's values -/
theorem eq_alike (st : Sto) (a b : W) : eqO st a.d b.d = some (alike a b) := by
  cases a <;> cases b <;> simp [eqO, DEEP, toP, mapO, PyData.eqv, PyData.eqvAll, mkS_beq, alike]
theorem eq_str (st : Sto) (l m : List Nat) : eqO st (.str l) (.str m) = some (decide (l = m)) := by
  simp [eqO, DEEP, toP, PyData.eqv, mkS_beq]
theorem eq_int (st : Sto) (l m : Int) : eqO st (.int l) (.int m) = some (l == m) := by
  simp [eqO, DEEP, toP, PyData.eqv]
theorem eq_bl (st : Sto) (l m : Bool) : eqO st (.bl l) (.bl m) = some (l == m) := by
  simp [eqO, DEEP, toP, PyData.eqv]
/-- in a row of texts -/
def strsD : List D → Option (List (List Nat))
  | [] => some []
  | .str l :: r => (strsD r).map fun s => l :: s
  | _ => none
theorem in_strs (st : Sto) (l : List Nat) (ls : List (List Nat)) : inO st (.str l) (.tup (ls.map D.str)) = some (ls.any fun m => decide (m = l)) := by
  have h : ∀ ls : List (List Nat), mapO (toP st DEEP) (ls.map D.str) = some (ls.map fun m => PyData.str (mkS m)) := fun ls => by
    induction ls with
    | nil => rfl
    | cons m r ih =>
      simp only [List.map_cons, mapO, ih]
      rfl
  have h1 : toP st DEEP (.str l) = some (.str (mkS l)) := rfl
  simp only [inO, inD, h, h1]
  rw [List.any_map]
  congr 1
  congr 1
  funext m
  show (mkS m == mkS l) = _
  rw [mkS_beq]
/-! ### the program's part -/
theorem truth_answer (b : D) (st : Sto) : F_truth_answer [b] st = some (.tup [.str [118, 97, 108, 117, 101], .tup [.str [116, 114, 117, 116, 104], b]], st) := by
  simp [F_truth_answer, b_truth_answer, mkFn, sRet, sRetN, sSeq, sIf, sSet, sExpr, sNext, sBreak, sCont, sPar2, sPar3, sPut, sAsg, sFor, mName, mTup, mCons, mNil, eTup, eLst, aCons, aNil, eC, eVar, eBin, eUn, eIf, eAnd, eOr, eNot, eChain, eCall, eSl, oNone, oSome, eDisp, psCons, psNil, eBM, tOf, tAnd, tOr, tNot, o1, opI, cT, opSub, opNeg, opAnd, opOr, kLt, kLe, kGt, kGe, opOrd, kEq, kNe, kIn, kIx, kIs, kIsNot, isiO, tyD, Ty.isa, ixO, truD, iV, iR1, iR2, iEn, iZp, tYesM, opAdd, opMul, LIM]
def numA (n : Int) : D := if -1000000000000000000000000000000 ≤ n ∧ n ≤ 1000000000000000000000000000000 then vN n else fGreat
theorem number_answer (n : Int) (st : Sto) : F_number_answer [.int n] st = some (numA n, st) := by
  unfold numA
  by_cases h1 : -1000000000000000000000000000000 ≤ n
  · by_cases h2 : n ≤ 1000000000000000000000000000000
    · rw [if_pos ⟨h1, h2⟩]
      simp [F_number_answer, b_number_answer, mkFn, sRet, sRetN, sSeq, sIf, sSet, sExpr, sNext, sBreak, sCont, sPar2, sPar3, sPut, sAsg, sFor, mName, mTup, mCons, mNil, eTup, eLst, aCons, aNil, eC, eVar, eBin, eUn, eIf, eAnd, eOr, eNot, eChain, eCall, eSl, oNone, oSome, eDisp, psCons, psNil, eBM, tOf, tAnd, tOr, tNot, o1, opI, cT, opSub, opNeg, opAnd, opOr, kLt, kLe, kGt, kGe, opOrd, kEq, kNe, kIn, kIx, kIs, kIsNot, isiO, tyD, Ty.isa, ixO, truD, iV, iR1, iR2, iEn, iZp, tYesM, opAdd, opMul, LIM, h1, h2]
    · rw [if_neg (fun z => h2 z.2)]
      simp [F_number_answer, b_number_answer, mkFn, sRet, sRetN, sSeq, sIf, sSet, sExpr, sNext, sBreak, sCont, sPar2, sPar3, sPut, sAsg, sFor, mName, mTup, mCons, mNil, eTup, eLst, aCons, aNil, eC, eVar, eBin, eUn, eIf, eAnd, eOr, eNot, eChain, eCall, eSl, oNone, oSome, eDisp, psCons, psNil, eBM, tOf, tAnd, tOr, tNot, o1, opI, cT, opSub, opNeg, opAnd, opOr, kLt, kLe, kGt, kGe, opOrd, kEq, kNe, kIn, kIx, kIs, kIsNot, isiO, tyD, Ty.isa, ixO, truD, iV, iR1, iR2, iEn, iZp, tYesM, opAdd, opMul, LIM, h1, h2]
  · rw [if_neg (fun z => h1 z.1)]
    simp [F_number_answer, b_number_answer, mkFn, sRet, sRetN, sSeq, sIf, sSet, sExpr, sNext, sBreak, sCont, sPar2, sPar3, sPut, sAsg, sFor, mName, mTup, mCons, mNil, eTup, eLst, aCons, aNil, eC, eVar, eBin, eUn, eIf, eAnd, eOr, eNot, eChain, eCall, eSl, oNone, oSome, eDisp, psCons, psNil, eBM, tOf, tAnd, tOr, tNot, o1, opI, cT, opSub, opNeg, opAnd, opOr, kLt, kLe, kGt, kGe, opOrd, kEq, kNe, kIn, kIx, kIs, kIsNot, isiO, tyD, Ty.isa, ixO, truD, iV, iR1, iR2, iEn, iZp, tYesM, opAdd, opMul, LIM, h1]
theorem cmp_lt_int (i j : Int) (st : Sto) : F_compared [.str [60], .int i, .int j] st = some (vT (decide (i < j)), st) := by
  simp [F_compared, b_compared, mkFn, sRet, sRetN, sSeq, sIf, sSet, sExpr, sNext, sBreak, sCont, sPar2, sPar3, sPut, sAsg, sFor, mName, mTup, mCons, mNil, eTup, eLst, aCons, aNil, eC, eVar, eBin, eUn, eIf, eAnd, eOr, eNot, eChain, eCall, eSl, oNone, oSome, eDisp, psCons, psNil, eBM, tOf, tAnd, tOr, tNot, o1, opI, cT, opSub, opNeg, opAnd, opOr, kLt, kLe, kGt, kGe, opOrd, kEq, kNe, kIn, kIx, kIs, kIsNot, isiO, tyD, Ty.isa, ixO, truD, iV, iR1, iR2, iEn, iZp, tYesM, opAdd, opMul, LIM, eq_str, truth_answer]
theorem cmp_le_int (i j : Int) (st : Sto) : F_compared [.str [60, 61], .int i, .int j] st = some (vT (decide (i ≤ j)), st) := by
  simp [F_compared, b_compared, mkFn, sRet, sRetN, sSeq, sIf, sSet, sExpr, sNext, sBreak, sCont, sPar2, sPar3, sPut, sAsg, sFor, mName, mTup, mCons, mNil, eTup, eLst, aCons, aNil, eC, eVar, eBin, eUn, eIf, eAnd, eOr, eNot, eChain, eCall, eSl, oNone, oSome, eDisp, psCons, psNil, eBM, tOf, tAnd, tOr, tNot, o1, opI, cT, opSub, opNeg, opAnd, opOr, kLt, kLe, kGt, kGe, opOrd, kEq, kNe, kIn, kIx, kIs, kIsNot, isiO, tyD, Ty.isa, ixO, truD, iV, iR1, iR2, iEn, iZp, tYesM, opAdd, opMul, LIM, eq_str, truth_answer]
theorem cmp_gt_int (i j : Int) (st : Sto) : F_compared [.str [62], .int i, .int j] st = some (vT (decide (j < i)), st) := by
  simp [F_compared, b_compared, mkFn, sRet, sRetN, sSeq, sIf, sSet, sExpr, sNext, sBreak, sCont, sPar2, sPar3, sPut, sAsg, sFor, mName, mTup, mCons, mNil, eTup, eLst, aCons, aNil, eC, eVar, eBin, eUn, eIf, eAnd, eOr, eNot, eChain, eCall, eSl, oNone, oSome, eDisp, psCons, psNil, eBM, tOf, tAnd, tOr, tNot, o1, opI, cT, opSub, opNeg, opAnd, opOr, kLt, kLe, kGt, kGe, opOrd, kEq, kNe, kIn, kIx, kIs, kIsNot, isiO, tyD, Ty.isa, ixO, truD, iV, iR1, iR2, iEn, iZp, tYesM, opAdd, opMul, LIM, eq_str, truth_answer]
theorem cmp_ge_int (i j : Int) (st : Sto) : F_compared [.str [62, 61], .int i, .int j] st = some (vT (decide (j ≤ i)), st) := by
  simp [F_compared, b_compared, mkFn, sRet, sRetN, sSeq, sIf, sSet, sExpr, sNext, sBreak, sCont, sPar2, sPar3, sPut, sAsg, sFor, mName, mTup, mCons, mNil, eTup, eLst, aCons, aNil, eC, eVar, eBin, eUn, eIf, eAnd, eOr, eNot, eChain, eCall, eSl, oNone, oSome, eDisp, psCons, psNil, eBM, tOf, tAnd, tOr, tNot, o1, opI, cT, opSub, opNeg, opAnd, opOr, kLt, kLe, kGt, kGe, opOrd, kEq, kNe, kIn, kIx, kIs, kIsNot, isiO, tyD, Ty.isa, ixO, truD, iV, iR1, iR2, iEn, iZp, tYesM, opAdd, opMul, LIM, eq_str, truth_answer]
theorem cmp_lt_str (i j : List Nat) (st : Sto) : F_compared [.str [60], .str i, .str j] st = some (vT (decide (i < j)), st) := by
  simp [F_compared, b_compared, mkFn, sRet, sRetN, sSeq, sIf, sSet, sExpr, sNext, sBreak, sCont, sPar2, sPar3, sPut, sAsg, sFor, mName, mTup, mCons, mNil, eTup, eLst, aCons, aNil, eC, eVar, eBin, eUn, eIf, eAnd, eOr, eNot, eChain, eCall, eSl, oNone, oSome, eDisp, psCons, psNil, eBM, tOf, tAnd, tOr, tNot, o1, opI, cT, opSub, opNeg, opAnd, opOr, kLt, kLe, kGt, kGe, opOrd, kEq, kNe, kIn, kIx, kIs, kIsNot, isiO, tyD, Ty.isa, ixO, truD, iV, iR1, iR2, iEn, iZp, tYesM, opAdd, opMul, LIM, eq_str, truth_answer]
theorem cmp_le_str (i j : List Nat) (st : Sto) : F_compared [.str [60, 61], .str i, .str j] st = some (vT (!decide (j < i)), st) := by
  simp [F_compared, b_compared, mkFn, sRet, sRetN, sSeq, sIf, sSet, sExpr, sNext, sBreak, sCont, sPar2, sPar3, sPut, sAsg, sFor, mName, mTup, mCons, mNil, eTup, eLst, aCons, aNil, eC, eVar, eBin, eUn, eIf, eAnd, eOr, eNot, eChain, eCall, eSl, oNone, oSome, eDisp, psCons, psNil, eBM, tOf, tAnd, tOr, tNot, o1, opI, cT, opSub, opNeg, opAnd, opOr, kLt, kLe, kGt, kGe, opOrd, kEq, kNe, kIn, kIx, kIs, kIsNot, isiO, tyD, Ty.isa, ixO, truD, iV, iR1, iR2, iEn, iZp, tYesM, opAdd, opMul, LIM, eq_str, truth_answer]
theorem cmp_gt_str (i j : List Nat) (st : Sto) : F_compared [.str [62], .str i, .str j] st = some (vT (decide (j < i)), st) := by
  simp [F_compared, b_compared, mkFn, sRet, sRetN, sSeq, sIf, sSet, sExpr, sNext, sBreak, sCont, sPar2, sPar3, sPut, sAsg, sFor, mName, mTup, mCons, mNil, eTup, eLst, aCons, aNil, eC, eVar, eBin, eUn, eIf, eAnd, eOr, eNot, eChain, eCall, eSl, oNone, oSome, eDisp, psCons, psNil, eBM, tOf, tAnd, tOr, tNot, o1, opI, cT, opSub, opNeg, opAnd, opOr, kLt, kLe, kGt, kGe, opOrd, kEq, kNe, kIn, kIx, kIs, kIsNot, isiO, tyD, Ty.isa, ixO, truD, iV, iR1, iR2, iEn, iZp, tYesM, opAdd, opMul, LIM, eq_str, truth_answer]
theorem cmp_ge_str (i j : List Nat) (st : Sto) : F_compared [.str [62, 61], .str i, .str j] st = some (vT (!decide (i < j)), st) := by
  simp [F_compared, b_compared, mkFn, sRet, sRetN, sSeq, sIf, sSet, sExpr, sNext, sBreak, sCont, sPar2, sPar3, sPut, sAsg, sFor, mName, mTup, mCons, mNil, eTup, eLst, aCons, aNil, eC, eVar, eBin, eUn, eIf, eAnd, eOr, eNot, eChain, eCall, eSl, oNone, oSome, eDisp, psCons, psNil, eBM, tOf, tAnd, tOr, tNot, o1, opI, cT, opSub, opNeg, opAnd, opOr, kLt, kLe, kGt, kGe, opOrd, kEq, kNe, kIn, kIx, kIs, kIsNot, isiO, tyD, Ty.isa, ixO, truD, iV, iR1, iR2, iEn, iZp, tYesM, opAdd, opMul, LIM, eq_str, truth_answer]
theorem two_texts (l m : List Nat) (st : Sto) (hl : l.length ≤ 1000) (hm : m.length ≤ 1000) : F_two_texts [.str l, .str m] st = some (if 200 < l.length + m.length then fGreat else vS (l ++ m), st) := by
  have h1 : l.length ≤ 16000000 := by omega
  have h2 : m.length ≤ 16000000 := by omega
  have h3 : l.length + m.length ≤ 16000000 := by omega
  by_cases h : (200 : Int) < (l.length : Int) + (m.length : Int)
  · rw [if_pos (by omega)]
    simp [F_two_texts, b_two_texts, mkFn, sRet, sRetN, sSeq, sIf, sSet, sExpr, sNext, sBreak, sCont, sPar2, sPar3, sPut, sAsg, sFor, mName, mTup, mCons, mNil, eTup, eLst, aCons, aNil, eC, eVar, eBin, eUn, eIf, eAnd, eOr, eNot, eChain, eCall, eSl, oNone, oSome, eDisp, psCons, psNil, eBM, tOf, tAnd, tOr, tNot, o1, opI, cT, opSub, opNeg, opAnd, opOr, kLt, kLe, kGt, kGe, opOrd, kEq, kNe, kIn, kIx, kIs, kIsNot, isiO, tyD, Ty.isa, ixO, truD, iV, iR1, iR2, iEn, iZp, tYesM, opAdd, opMul, LIM, lenO, h, h1, h2, h3]
  · rw [if_neg (by omega)]
    simp [F_two_texts, b_two_texts, mkFn, sRet, sRetN, sSeq, sIf, sSet, sExpr, sNext, sBreak, sCont, sPar2, sPar3, sPut, sAsg, sFor, mName, mTup, mCons, mNil, eTup, eLst, aCons, aNil, eC, eVar, eBin, eUn, eIf, eAnd, eOr, eNot, eChain, eCall, eSl, oNone, oSome, eDisp, psCons, psNil, eBM, tOf, tAnd, tOr, tNot, o1, opI, cT, opSub, opNeg, opAnd, opOr, kLt, kLe, kGt, kGe, opOrd, kEq, kNe, kIn, kIx, kIs, kIsNot, isiO, tyD, Ty.isa, ixO, truD, iV, iR1, iR2, iEn, iZp, tYesM, opAdd, opMul, LIM, lenO, h, h1, h2, h3]
end Math

set_option maxRecDepth 100000
set_option maxHeartbeats 4000000
namespace Math
open MP Text PySem
theorem log_small {i : Int} (h : W.ok (.num i)) : i.natAbs.log2 < 100 := by
  have h2 : i.natAbs < 2 ^ 100 := by
    have h3 : (2 : Nat) ^ 100 = 1267650600228229401496703205376 := by decide
    obtain ⟨h1, h2⟩ := h
    rw [h3]
    omega
  exact PySem.Flt.log2_lt_of (by decide) h2
theorem cMul_ok' {i j : Int} (h : W.ok (.num i)) (h' : W.ok (.num j)) : cMul i j = true := by
  have := log_small h
  have := log_small h'
  exact decide_eq_true (.inr (.inr (by omega)))
theorem cDiv_ok' {i j : Int} (h' : W.ok (.num j)) (h0 : j ≠ 0) : cDiv i j = true := by
  have := log_small h'
  exact decide_eq_true ⟨h0, by omega⟩
theorem nums_add (i j : Int) (st : Sto) : F_two_numbers [.str [43], .int i, .int j] st = some (numA (i + j), st) := by
  simp [F_two_numbers, b_two_numbers, mkFn, sRet, sRetN, sSeq, sIf, sSet, sExpr, sNext, sBreak, sCont, sPar2, sPar3, sPut, sAsg, sFor, mName, mTup, mCons, mNil, eTup, eLst, aCons, aNil, eC, eVar, eBin, eUn, eIf, eAnd, eOr, eNot, eChain, eCall, eSl, oNone, oSome, eDisp, psCons, psNil, eBM, tOf, tAnd, tOr, tNot, o1, opI, cT, opSub, opNeg, opAnd, opOr, kLt, kLe, kGt, kGe, opOrd, kEq, kNe, kIn, kIx, kIs, kIsNot, isiO, tyD, Ty.isa, ixO, truD, iV, iR1, iR2, iEn, iZp, tYesM, opAdd, opMul, LIM, eq_str, number_answer]
theorem nums_sub (i j : Int) (st : Sto) : F_two_numbers [.str [45], .int i, .int j] st = some (numA (i - j), st) := by
  simp [F_two_numbers, b_two_numbers, mkFn, sRet, sRetN, sSeq, sIf, sSet, sExpr, sNext, sBreak, sCont, sPar2, sPar3, sPut, sAsg, sFor, mName, mTup, mCons, mNil, eTup, eLst, aCons, aNil, eC, eVar, eBin, eUn, eIf, eAnd, eOr, eNot, eChain, eCall, eSl, oNone, oSome, eDisp, psCons, psNil, eBM, tOf, tAnd, tOr, tNot, o1, opI, cT, opSub, opNeg, opAnd, opOr, kLt, kLe, kGt, kGe, opOrd, kEq, kNe, kIn, kIx, kIs, kIsNot, isiO, tyD, Ty.isa, ixO, truD, iV, iR1, iR2, iEn, iZp, tYesM, opAdd, opMul, LIM, eq_str, number_answer]
theorem nums_mul (i j : Int) (st : Sto) (h : W.ok (.num i)) (h' : W.ok (.num j)) : F_two_numbers [.str [42], .int i, .int j] st = some (numA (i * j), st) := by
  simp [F_two_numbers, b_two_numbers, mkFn, sRet, sRetN, sSeq, sIf, sSet, sExpr, sNext, sBreak, sCont, sPar2, sPar3, sPut, sAsg, sFor, mName, mTup, mCons, mNil, eTup, eLst, aCons, aNil, eC, eVar, eBin, eUn, eIf, eAnd, eOr, eNot, eChain, eCall, eSl, oNone, oSome, eDisp, psCons, psNil, eBM, tOf, tAnd, tOr, tNot, o1, opI, cT, opSub, opNeg, opAnd, opOr, kLt, kLe, kGt, kGe, opOrd, kEq, kNe, kIn, kIx, kIs, kIsNot, isiO, tyD, Ty.isa, ixO, truD, iV, iR1, iR2, iEn, iZp, tYesM, opAdd, opMul, LIM, eq_str, number_answer, cMul_ok' h h']
theorem nums_div (i j : Int) (st : Sto) (h' : W.ok (.num j)) : F_two_numbers [.str [47, 47], .int i, .int j] st = some (if j = 0 then fNought else numA (gDiv i j), st) := by
  by_cases h0 : j = 0
  · subst h0
    simp [F_two_numbers, b_two_numbers, mkFn, sRet, sRetN, sSeq, sIf, sSet, sExpr, sNext, sBreak, sCont, sPar2, sPar3, sPut, sAsg, sFor, mName, mTup, mCons, mNil, eTup, eLst, aCons, aNil, eC, eVar, eBin, eUn, eIf, eAnd, eOr, eNot, eChain, eCall, eSl, oNone, oSome, eDisp, psCons, psNil, eBM, tOf, tAnd, tOr, tNot, o1, opI, cT, opSub, opNeg, opAnd, opOr, kLt, kLe, kGt, kGe, opOrd, kEq, kNe, kIn, kIx, kIs, kIsNot, isiO, tyD, Ty.isa, ixO, truD, iV, iR1, iR2, iEn, iZp, tYesM, opAdd, opMul, LIM, eq_str, eq_int, number_answer]
  · simp [F_two_numbers, b_two_numbers, mkFn, sRet, sRetN, sSeq, sIf, sSet, sExpr, sNext, sBreak, sCont, sPar2, sPar3, sPut, sAsg, sFor, mName, mTup, mCons, mNil, eTup, eLst, aCons, aNil, eC, eVar, eBin, eUn, eIf, eAnd, eOr, eNot, eChain, eCall, eSl, oNone, oSome, eDisp, psCons, psNil, eBM, tOf, tAnd, tOr, tNot, o1, opI, cT, opSub, opNeg, opAnd, opOr, kLt, kLe, kGt, kGe, opOrd, kEq, kNe, kIn, kIx, kIs, kIsNot, isiO, tyD, Ty.isa, ixO, truD, iV, iR1, iR2, iEn, iZp, tYesM, opAdd, opMul, LIM, opDiv, eq_str, eq_int, number_answer, cDiv_ok' h' h0, h0]
def bitA (f : Int → Int → Int) (i j : Int) : D := if i < 0 ∨ j < 0 then fKind else numA (f i j)
theorem nums_and (i j : Int) (st : Sto) : F_two_numbers [.str [38], .int i, .int j] st = some (bitA Builtin.bitAnd i j, st) := by
  unfold bitA
  by_cases h : i < 0
  · rw [if_pos (.inl h)]
    simp [F_two_numbers, b_two_numbers, mkFn, sRet, sRetN, sSeq, sIf, sSet, sExpr, sNext, sBreak, sCont, sPar2, sPar3, sPut, sAsg, sFor, mName, mTup, mCons, mNil, eTup, eLst, aCons, aNil, eC, eVar, eBin, eUn, eIf, eAnd, eOr, eNot, eChain, eCall, eSl, oNone, oSome, eDisp, psCons, psNil, eBM, tOf, tAnd, tOr, tNot, o1, opI, cT, opSub, opNeg, opAnd, opOr, kLt, kLe, kGt, kGe, opOrd, kEq, kNe, kIn, kIx, kIs, kIsNot, isiO, tyD, Ty.isa, ixO, truD, iV, iR1, iR2, iEn, iZp, tYesM, opAdd, opMul, LIM, eq_str, eq_int, number_answer, h]
  · by_cases h2 : j < 0
    · rw [if_pos (.inr h2)]
      simp [F_two_numbers, b_two_numbers, mkFn, sRet, sRetN, sSeq, sIf, sSet, sExpr, sNext, sBreak, sCont, sPar2, sPar3, sPut, sAsg, sFor, mName, mTup, mCons, mNil, eTup, eLst, aCons, aNil, eC, eVar, eBin, eUn, eIf, eAnd, eOr, eNot, eChain, eCall, eSl, oNone, oSome, eDisp, psCons, psNil, eBM, tOf, tAnd, tOr, tNot, o1, opI, cT, opSub, opNeg, opAnd, opOr, kLt, kLe, kGt, kGe, opOrd, kEq, kNe, kIn, kIx, kIs, kIsNot, isiO, tyD, Ty.isa, ixO, truD, iV, iR1, iR2, iEn, iZp, tYesM, opAdd, opMul, LIM, eq_str, eq_int, number_answer, h, h2]
    · rw [if_neg (by omega)]
      simp [F_two_numbers, b_two_numbers, mkFn, sRet, sRetN, sSeq, sIf, sSet, sExpr, sNext, sBreak, sCont, sPar2, sPar3, sPut, sAsg, sFor, mName, mTup, mCons, mNil, eTup, eLst, aCons, aNil, eC, eVar, eBin, eUn, eIf, eAnd, eOr, eNot, eChain, eCall, eSl, oNone, oSome, eDisp, psCons, psNil, eBM, tOf, tAnd, tOr, tNot, o1, opI, cT, opSub, opNeg, opAnd, opOr, kLt, kLe, kGt, kGe, opOrd, kEq, kNe, kIn, kIx, kIs, kIsNot, isiO, tyD, Ty.isa, ixO, truD, iV, iR1, iR2, iEn, iZp, tYesM, opAdd, opMul, LIM, eq_str, eq_int, number_answer, h, h2]
theorem nums_or (i j : Int) (st : Sto) : F_two_numbers [.str [124], .int i, .int j] st = some (bitA Builtin.bitOr i j, st) := by
  unfold bitA
  by_cases h : i < 0
  · rw [if_pos (.inl h)]
    simp [F_two_numbers, b_two_numbers, mkFn, sRet, sRetN, sSeq, sIf, sSet, sExpr, sNext, sBreak, sCont, sPar2, sPar3, sPut, sAsg, sFor, mName, mTup, mCons, mNil, eTup, eLst, aCons, aNil, eC, eVar, eBin, eUn, eIf, eAnd, eOr, eNot, eChain, eCall, eSl, oNone, oSome, eDisp, psCons, psNil, eBM, tOf, tAnd, tOr, tNot, o1, opI, cT, opSub, opNeg, opAnd, opOr, kLt, kLe, kGt, kGe, opOrd, kEq, kNe, kIn, kIx, kIs, kIsNot, isiO, tyD, Ty.isa, ixO, truD, iV, iR1, iR2, iEn, iZp, tYesM, opAdd, opMul, LIM, eq_str, eq_int, number_answer, h]
  · by_cases h2 : j < 0
    · rw [if_pos (.inr h2)]
      simp [F_two_numbers, b_two_numbers, mkFn, sRet, sRetN, sSeq, sIf, sSet, sExpr, sNext, sBreak, sCont, sPar2, sPar3, sPut, sAsg, sFor, mName, mTup, mCons, mNil, eTup, eLst, aCons, aNil, eC, eVar, eBin, eUn, eIf, eAnd, eOr, eNot, eChain, eCall, eSl, oNone, oSome, eDisp, psCons, psNil, eBM, tOf, tAnd, tOr, tNot, o1, opI, cT, opSub, opNeg, opAnd, opOr, kLt, kLe, kGt, kGe, opOrd, kEq, kNe, kIn, kIx, kIs, kIsNot, isiO, tyD, Ty.isa, ixO, truD, iV, iR1, iR2, iEn, iZp, tYesM, opAdd, opMul, LIM, eq_str, eq_int, number_answer, h, h2]
    · rw [if_neg (by omega)]
      simp [F_two_numbers, b_two_numbers, mkFn, sRet, sRetN, sSeq, sIf, sSet, sExpr, sNext, sBreak, sCont, sPar2, sPar3, sPut, sAsg, sFor, mName, mTup, mCons, mNil, eTup, eLst, aCons, aNil, eC, eVar, eBin, eUn, eIf, eAnd, eOr, eNot, eChain, eCall, eSl, oNone, oSome, eDisp, psCons, psNil, eBM, tOf, tAnd, tOr, tNot, o1, opI, cT, opSub, opNeg, opAnd, opOr, kLt, kLe, kGt, kGe, opOrd, kEq, kNe, kIn, kIx, kIs, kIsNot, isiO, tyD, Ty.isa, ixO, truD, iV, iR1, iR2, iEn, iZp, tYesM, opAdd, opMul, LIM, eq_str, eq_int, number_answer, h, h2]
/-! ### two -/
/-- what a sign tells: of numbers, texts, truths, all else -/
structure Sgn where
  s : List Nat
  num : Int → Int → D
  txt : List Nat → List Nat → D
  tru : Bool → Bool → D
def Sgn.of (z : Sgn) : W → W → D
  | .num i, .num j => z.num i j
  | .txt l, .txt m => z.txt l m
  | .tru a, .tru b => z.tru a b
  | _, _ => fKind
def zAdd : Sgn := ⟨[43], fun i j => numA (i + j), fun l m => if 200 < l.length + m.length then fGreat else vS (l ++ m), fun _ _ => fKind⟩
def zSub : Sgn := ⟨[45], fun i j => numA (i - j), fun _ _ => fKind, fun _ _ => fKind⟩
def zMul : Sgn := ⟨[42], fun i j => numA (i * j), fun _ _ => fKind, fun _ _ => fKind⟩
def zDiv : Sgn := ⟨[47, 47], fun i j => if j = 0 then fNought else numA (gDiv i j), fun _ _ => fKind, fun _ _ => fKind⟩
def zAnd : Sgn := ⟨[38], bitA Builtin.bitAnd, fun _ _ => fKind, fun a b => vT (a && b)⟩
def zOr : Sgn := ⟨[124], bitA Builtin.bitOr, fun _ _ => fKind, fun a b => vT (a || b)⟩
def zLt : Sgn := ⟨[60], fun i j => vT (decide (i < j)), fun l m => vT (decide (l < m)), fun _ _ => fKind⟩
def zLe : Sgn := ⟨[60, 61], fun i j => vT (decide (i ≤ j)), fun l m => vT (!decide (m < l)), fun _ _ => fKind⟩
def zGt : Sgn := ⟨[62], fun i j => vT (decide (j < i)), fun l m => vT (decide (m < l)), fun _ _ => fKind⟩
def zGe : Sgn := ⟨[62, 61], fun i j => vT (decide (j ≤ i)), fun l m => vT (!decide (l < m)), fun _ _ => fKind⟩
theorem in3 (st : Sto) (l : List Nat) : inO st (.str l) (.tup [.str [110, 117, 109, 98, 101, 114], .str [116, 101, 120, 116], .str [116, 114, 117, 116, 104]]) = some (decide ([110, 117, 109, 98, 101, 114] = l) || (decide ([116, 101, 120, 116] = l) || decide ([116, 114, 117, 116, 104] = l))) := by
  have := in_strs st l [[110, 117, 109, 98, 101, 114], [116, 101, 120, 116], [116, 114, 117, 116, 104]]
  simpa using this
theorem in4 (st : Sto) (l : List Nat) : inO st (.str l) (.tup [.str [60], .str [60, 61], .str [62], .str [62, 61]]) = some (decide ([60] = l) || (decide ([60, 61] = l) || (decide ([62] = l) || decide ([62, 61] = l)))) := by
  have := in_strs st l [[60], [60, 61], [62], [62, 61]]
  simpa using this
theorem atI0 {α : Type} (x : α) (r : List α) : L2.atI (x :: r) 0 = some x := L2.atI_nat (j := 0) rfl
theorem atI1 {α : Type} (x y : α) (r : List α) : L2.atI (x :: y :: r) 1 = some y := L2.atI_nat (j := 1) rfl


theorem two_add (a b : W) (st : Sto) (ha : a.ok) (hb : b.ok) : F_two [.str [43], a.d, b.d] st = some (zAdd.of a b, st) := by
  cases a <;> cases b <;> simp only [F_two, b_two, eVar_at, kVar_some, eC_at, eBin_at, k2_some, k3_some, eUn_at, k1_some, kVal_some, kBl_some, kEq_at, kBlN_some, kNe_at, kIn_at, kNotIn_at, kIx_at, ixO_tup, kLt_int, kLe_int, kGt_int, kGe_int, kLt_str, kLe_str, kGt_str, kGe_str, kIs_non, kIs_bl, kIs_int, kIs_str, kIs_tup, kIs_ref, kIsNot_non, kIsNot_bl, kIsNot_int, kIsNot_str, kIsNot_tup, kIsNot_ref, opAdd_int, opAdd_str, opSub_int, opMul_int, opDiv_int, opMod_int, opPow_int, opAnd_int, opOr_int, opNeg_int, eChain_at, kc1_some, kc2_some, kc3_true, kc3_false, kc4_some, tOf_at, kTru_some, kTru2_some, truD_non, truD_bl, truD_int, truD_tup, tAnd_at, kAnd_true, kAnd_false, tOr_at, kOr_true, kOr_false, tNot_at, kNot_some, tYes_at, eAnd_at, keAnd_some, keAnd2_true, keAnd2_false, eOr_at, keOr_some, keOr2_true, keOr2_false, eNot_at, keNot_some, keNot2_some, eIf_at, keIf_true, keIf_false, aNil_at, aCons_at, ka1_some, ka2_some, eTup_at, kTup_0, kTup_1, kTup_2, kTup_3, kTup_4, kTup_5, kTup_6, eLst_at, kLst_0, kLst_1, kLst_2, kLst_3, kLst_4, eDic0_at, eCall_at, kCall_some, o1_at, isiO_at, kIsi_some, tyD_non, tyD_bl, tyD_int, tyD_str, tyD_tup, eBM_at, kbm1_some, kbm2_some, eSl_at, ks2_some, ks3_some, ks4_some, oNone_at, oSome_at, kSome_int, slO_str, sSeq_at, kSeq_nx, kSeq_rt, kSeq_bk, kSeq_ct, sNext_at, sBreak_at, sCont_at, sRetN_at, sRet_at, kRet_some, sExpr_at, kExpr_some, sSet_at, kSet_some, sIf_at, kIf_true, kIf_false, sPar2_k, kPar2_some, sPar3_k, kPar3_some, sAsg_at, kAsg_some, kAsg2_some, mName_at, mTup_2, mTup_3, mCons_at, kmCons_some, mNil_at, sPut_at, kp1_some, kp2_some, kp3_some, kp4_some, kFn_rt, kFn_nx, mkFn_0, mkFn_1, mkFn_2, mkFn_3, mkFn_4, mkFn_5, sWhile_at, List.getElem?_cons_zero, List.getElem?_cons_succ, List.set_cons_zero, List.set_cons_succ, List.replicate_succ, List.replicate_zero, Nat.reduceSub, Bool.not_true, Bool.not_false, ite_true, ite_false, if_true, if_false, reduceCtorEq, eq_str, in3, in4, atI0, atI1, Sgn.of, zAdd, nums_add, ixO_tup, List.cons.injEq, Nat.reduceEqDiff, decide_false, decide_true, and_false, and_true, false_and, true_and, Bool.or_false, Bool.or_true, Bool.true_or, Bool.false_or]
  rw [two_texts _ _ _ ha hb]
  rfl

theorem two_sub (a b : W) (st : Sto) (ha : a.ok) (hb : b.ok) : F_two [.str [45], a.d, b.d] st = some (zSub.of a b, st) := by
  cases a <;> cases b <;> simp only [F_two, b_two, eVar_at, kVar_some, eC_at, eBin_at, k2_some, k3_some, eUn_at, k1_some, kVal_some, kBl_some, kEq_at, kBlN_some, kNe_at, kIn_at, kNotIn_at, kIx_at, ixO_tup, kLt_int, kLe_int, kGt_int, kGe_int, kLt_str, kLe_str, kGt_str, kGe_str, kIs_non, kIs_bl, kIs_int, kIs_str, kIs_tup, kIs_ref, kIsNot_non, kIsNot_bl, kIsNot_int, kIsNot_str, kIsNot_tup, kIsNot_ref, opAdd_int, opAdd_str, opSub_int, opMul_int, opDiv_int, opMod_int, opPow_int, opAnd_int, opOr_int, opNeg_int, eChain_at, kc1_some, kc2_some, kc3_true, kc3_false, kc4_some, tOf_at, kTru_some, kTru2_some, truD_non, truD_bl, truD_int, truD_tup, tAnd_at, kAnd_true, kAnd_false, tOr_at, kOr_true, kOr_false, tNot_at, kNot_some, tYes_at, eAnd_at, keAnd_some, keAnd2_true, keAnd2_false, eOr_at, keOr_some, keOr2_true, keOr2_false, eNot_at, keNot_some, keNot2_some, eIf_at, keIf_true, keIf_false, aNil_at, aCons_at, ka1_some, ka2_some, eTup_at, kTup_0, kTup_1, kTup_2, kTup_3, kTup_4, kTup_5, kTup_6, eLst_at, kLst_0, kLst_1, kLst_2, kLst_3, kLst_4, eDic0_at, eCall_at, kCall_some, o1_at, isiO_at, kIsi_some, tyD_non, tyD_bl, tyD_int, tyD_str, tyD_tup, eBM_at, kbm1_some, kbm2_some, eSl_at, ks2_some, ks3_some, ks4_some, oNone_at, oSome_at, kSome_int, slO_str, sSeq_at, kSeq_nx, kSeq_rt, kSeq_bk, kSeq_ct, sNext_at, sBreak_at, sCont_at, sRetN_at, sRet_at, kRet_some, sExpr_at, kExpr_some, sSet_at, kSet_some, sIf_at, kIf_true, kIf_false, sPar2_k, kPar2_some, sPar3_k, kPar3_some, sAsg_at, kAsg_some, kAsg2_some, mName_at, mTup_2, mTup_3, mCons_at, kmCons_some, mNil_at, sPut_at, kp1_some, kp2_some, kp3_some, kp4_some, kFn_rt, kFn_nx, mkFn_0, mkFn_1, mkFn_2, mkFn_3, mkFn_4, mkFn_5, sWhile_at, List.getElem?_cons_zero, List.getElem?_cons_succ, List.set_cons_zero, List.set_cons_succ, List.replicate_succ, List.replicate_zero, Nat.reduceSub, Bool.not_true, Bool.not_false, ite_true, ite_false, if_true, if_false, reduceCtorEq, eq_str, in3, in4, atI0, atI1, Sgn.of, zSub, nums_sub, ixO_tup, List.cons.injEq, Nat.reduceEqDiff, decide_false, decide_true, and_false, and_true, false_and, true_and, Bool.or_false, Bool.or_true, Bool.true_or, Bool.false_or]

theorem two_and (a b : W) (st : Sto) (ha : a.ok) (hb : b.ok) : F_two [.str [38], a.d, b.d] st = some (zAnd.of a b, st) := by
  cases a <;> cases b <;> simp only [F_two, b_two, eVar_at, kVar_some, eC_at, eBin_at, k2_some, k3_some, eUn_at, k1_some, kVal_some, kBl_some, kEq_at, kBlN_some, kNe_at, kIn_at, kNotIn_at, kIx_at, ixO_tup, kLt_int, kLe_int, kGt_int, kGe_int, kLt_str, kLe_str, kGt_str, kGe_str, kIs_non, kIs_bl, kIs_int, kIs_str, kIs_tup, kIs_ref, kIsNot_non, kIsNot_bl, kIsNot_int, kIsNot_str, kIsNot_tup, kIsNot_ref, opAdd_int, opAdd_str, opSub_int, opMul_int, opDiv_int, opMod_int, opPow_int, opAnd_int, opOr_int, opNeg_int, eChain_at, kc1_some, kc2_some, kc3_true, kc3_false, kc4_some, tOf_at, kTru_some, kTru2_some, truD_non, truD_bl, truD_int, truD_tup, tAnd_at, kAnd_true, kAnd_false, tOr_at, kOr_true, kOr_false, tNot_at, kNot_some, tYes_at, eAnd_at, keAnd_some, keAnd2_true, keAnd2_false, eOr_at, keOr_some, keOr2_true, keOr2_false, eNot_at, keNot_some, keNot2_some, eIf_at, keIf_true, keIf_false, aNil_at, aCons_at, ka1_some, ka2_some, eTup_at, kTup_0, kTup_1, kTup_2, kTup_3, kTup_4, kTup_5, kTup_6, eLst_at, kLst_0, kLst_1, kLst_2, kLst_3, kLst_4, eDic0_at, eCall_at, kCall_some, o1_at, isiO_at, kIsi_some, tyD_non, tyD_bl, tyD_int, tyD_str, tyD_tup, eBM_at, kbm1_some, kbm2_some, eSl_at, ks2_some, ks3_some, ks4_some, oNone_at, oSome_at, kSome_int, slO_str, sSeq_at, kSeq_nx, kSeq_rt, kSeq_bk, kSeq_ct, sNext_at, sBreak_at, sCont_at, sRetN_at, sRet_at, kRet_some, sExpr_at, kExpr_some, sSet_at, kSet_some, sIf_at, kIf_true, kIf_false, sPar2_k, kPar2_some, sPar3_k, kPar3_some, sAsg_at, kAsg_some, kAsg2_some, mName_at, mTup_2, mTup_3, mCons_at, kmCons_some, mNil_at, sPut_at, kp1_some, kp2_some, kp3_some, kp4_some, kFn_rt, kFn_nx, mkFn_0, mkFn_1, mkFn_2, mkFn_3, mkFn_4, mkFn_5, sWhile_at, List.getElem?_cons_zero, List.getElem?_cons_succ, List.set_cons_zero, List.set_cons_succ, List.replicate_succ, List.replicate_zero, Nat.reduceSub, Bool.not_true, Bool.not_false, ite_true, ite_false, if_true, if_false, reduceCtorEq, eq_str, in3, in4, atI0, atI1, Sgn.of, zAnd, nums_and, truth_answer, ixO_tup, List.cons.injEq, Nat.reduceEqDiff, decide_false, decide_true, and_false, and_true, false_and, true_and, Bool.or_false, Bool.or_true, Bool.true_or, Bool.false_or]
  rename_i x y
  cases x <;> rfl

theorem two_or (a b : W) (st : Sto) (ha : a.ok) (hb : b.ok) : F_two [.str [124], a.d, b.d] st = some (zOr.of a b, st) := by
  cases a <;> cases b <;> simp only [F_two, b_two, eVar_at, kVar_some, eC_at, eBin_at, k2_some, k3_some, eUn_at, k1_some, kVal_some, kBl_some, kEq_at, kBlN_some, kNe_at, kIn_at, kNotIn_at, kIx_at, ixO_tup, kLt_int, kLe_int, kGt_int, kGe_int, kLt_str, kLe_str, kGt_str, kGe_str, kIs_non, kIs_bl, kIs_int, kIs_str, kIs_tup, kIs_ref, kIsNot_non, kIsNot_bl, kIsNot_int, kIsNot_str, kIsNot_tup, kIsNot_ref, opAdd_int, opAdd_str, opSub_int, opMul_int, opDiv_int, opMod_int, opPow_int, opAnd_int, opOr_int, opNeg_int, eChain_at, kc1_some, kc2_some, kc3_true, kc3_false, kc4_some, tOf_at, kTru_some, kTru2_some, truD_non, truD_bl, truD_int, truD_tup, tAnd_at, kAnd_true, kAnd_false, tOr_at, kOr_true, kOr_false, tNot_at, kNot_some, tYes_at, eAnd_at, keAnd_some, keAnd2_true, keAnd2_false, eOr_at, keOr_some, keOr2_true, keOr2_false, eNot_at, keNot_some, keNot2_some, eIf_at, keIf_true, keIf_false, aNil_at, aCons_at, ka1_some, ka2_some, eTup_at, kTup_0, kTup_1, kTup_2, kTup_3, kTup_4, kTup_5, kTup_6, eLst_at, kLst_0, kLst_1, kLst_2, kLst_3, kLst_4, eDic0_at, eCall_at, kCall_some, o1_at, isiO_at, kIsi_some, tyD_non, tyD_bl, tyD_int, tyD_str, tyD_tup, eBM_at, kbm1_some, kbm2_some, eSl_at, ks2_some, ks3_some, ks4_some, oNone_at, oSome_at, kSome_int, slO_str, sSeq_at, kSeq_nx, kSeq_rt, kSeq_bk, kSeq_ct, sNext_at, sBreak_at, sCont_at, sRetN_at, sRet_at, kRet_some, sExpr_at, kExpr_some, sSet_at, kSet_some, sIf_at, kIf_true, kIf_false, sPar2_k, kPar2_some, sPar3_k, kPar3_some, sAsg_at, kAsg_some, kAsg2_some, mName_at, mTup_2, mTup_3, mCons_at, kmCons_some, mNil_at, sPut_at, kp1_some, kp2_some, kp3_some, kp4_some, kFn_rt, kFn_nx, mkFn_0, mkFn_1, mkFn_2, mkFn_3, mkFn_4, mkFn_5, sWhile_at, List.getElem?_cons_zero, List.getElem?_cons_succ, List.set_cons_zero, List.set_cons_succ, List.replicate_succ, List.replicate_zero, Nat.reduceSub, Bool.not_true, Bool.not_false, ite_true, ite_false, if_true, if_false, reduceCtorEq, eq_str, in3, in4, atI0, atI1, Sgn.of, zOr, nums_or, truth_answer, ixO_tup, List.cons.injEq, Nat.reduceEqDiff, decide_false, decide_true, and_false, and_true, false_and, true_and, Bool.or_false, Bool.or_true, Bool.true_or, Bool.false_or]
  rename_i x y
  cases x <;> rfl

theorem two_lt (a b : W) (st : Sto) (ha : a.ok) (hb : b.ok) : F_two [.str [60], a.d, b.d] st = some (zLt.of a b, st) := by
  cases a <;> cases b <;> simp only [F_two, b_two, eVar_at, kVar_some, eC_at, eBin_at, k2_some, k3_some, eUn_at, k1_some, kVal_some, kBl_some, kEq_at, kBlN_some, kNe_at, kIn_at, kNotIn_at, kIx_at, ixO_tup, kLt_int, kLe_int, kGt_int, kGe_int, kLt_str, kLe_str, kGt_str, kGe_str, kIs_non, kIs_bl, kIs_int, kIs_str, kIs_tup, kIs_ref, kIsNot_non, kIsNot_bl, kIsNot_int, kIsNot_str, kIsNot_tup, kIsNot_ref, opAdd_int, opAdd_str, opSub_int, opMul_int, opDiv_int, opMod_int, opPow_int, opAnd_int, opOr_int, opNeg_int, eChain_at, kc1_some, kc2_some, kc3_true, kc3_false, kc4_some, tOf_at, kTru_some, kTru2_some, truD_non, truD_bl, truD_int, truD_tup, tAnd_at, kAnd_true, kAnd_false, tOr_at, kOr_true, kOr_false, tNot_at, kNot_some, tYes_at, eAnd_at, keAnd_some, keAnd2_true, keAnd2_false, eOr_at, keOr_some, keOr2_true, keOr2_false, eNot_at, keNot_some, keNot2_some, eIf_at, keIf_true, keIf_false, aNil_at, aCons_at, ka1_some, ka2_some, eTup_at, kTup_0, kTup_1, kTup_2, kTup_3, kTup_4, kTup_5, kTup_6, eLst_at, kLst_0, kLst_1, kLst_2, kLst_3, kLst_4, eDic0_at, eCall_at, kCall_some, o1_at, isiO_at, kIsi_some, tyD_non, tyD_bl, tyD_int, tyD_str, tyD_tup, eBM_at, kbm1_some, kbm2_some, eSl_at, ks2_some, ks3_some, ks4_some, oNone_at, oSome_at, kSome_int, slO_str, sSeq_at, kSeq_nx, kSeq_rt, kSeq_bk, kSeq_ct, sNext_at, sBreak_at, sCont_at, sRetN_at, sRet_at, kRet_some, sExpr_at, kExpr_some, sSet_at, kSet_some, sIf_at, kIf_true, kIf_false, sPar2_k, kPar2_some, sPar3_k, kPar3_some, sAsg_at, kAsg_some, kAsg2_some, mName_at, mTup_2, mTup_3, mCons_at, kmCons_some, mNil_at, sPut_at, kp1_some, kp2_some, kp3_some, kp4_some, kFn_rt, kFn_nx, mkFn_0, mkFn_1, mkFn_2, mkFn_3, mkFn_4, mkFn_5, sWhile_at, List.getElem?_cons_zero, List.getElem?_cons_succ, List.set_cons_zero, List.set_cons_succ, List.replicate_succ, List.replicate_zero, Nat.reduceSub, Bool.not_true, Bool.not_false, ite_true, ite_false, if_true, if_false, reduceCtorEq, eq_str, in3, in4, atI0, atI1, Sgn.of, zLt, cmp_lt_int, cmp_lt_str, ixO_tup, List.cons.injEq, Nat.reduceEqDiff, decide_false, decide_true, and_false, and_true, false_and, true_and, Bool.or_false, Bool.or_true, Bool.true_or, Bool.false_or]

theorem two_le (a b : W) (st : Sto) (ha : a.ok) (hb : b.ok) : F_two [.str [60, 61], a.d, b.d] st = some (zLe.of a b, st) := by
  cases a <;> cases b <;> simp only [F_two, b_two, eVar_at, kVar_some, eC_at, eBin_at, k2_some, k3_some, eUn_at, k1_some, kVal_some, kBl_some, kEq_at, kBlN_some, kNe_at, kIn_at, kNotIn_at, kIx_at, ixO_tup, kLt_int, kLe_int, kGt_int, kGe_int, kLt_str, kLe_str, kGt_str, kGe_str, kIs_non, kIs_bl, kIs_int, kIs_str, kIs_tup, kIs_ref, kIsNot_non, kIsNot_bl, kIsNot_int, kIsNot_str, kIsNot_tup, kIsNot_ref, opAdd_int, opAdd_str, opSub_int, opMul_int, opDiv_int, opMod_int, opPow_int, opAnd_int, opOr_int, opNeg_int, eChain_at, kc1_some, kc2_some, kc3_true, kc3_false, kc4_some, tOf_at, kTru_some, kTru2_some, truD_non, truD_bl, truD_int, truD_tup, tAnd_at, kAnd_true, kAnd_false, tOr_at, kOr_true, kOr_false, tNot_at, kNot_some, tYes_at, eAnd_at, keAnd_some, keAnd2_true, keAnd2_false, eOr_at, keOr_some, keOr2_true, keOr2_false, eNot_at, keNot_some, keNot2_some, eIf_at, keIf_true, keIf_false, aNil_at, aCons_at, ka1_some, ka2_some, eTup_at, kTup_0, kTup_1, kTup_2, kTup_3, kTup_4, kTup_5, kTup_6, eLst_at, kLst_0, kLst_1, kLst_2, kLst_3, kLst_4, eDic0_at, eCall_at, kCall_some, o1_at, isiO_at, kIsi_some, tyD_non, tyD_bl, tyD_int, tyD_str, tyD_tup, eBM_at, kbm1_some, kbm2_some, eSl_at, ks2_some, ks3_some, ks4_some, oNone_at, oSome_at, kSome_int, slO_str, sSeq_at, kSeq_nx, kSeq_rt, kSeq_bk, kSeq_ct, sNext_at, sBreak_at, sCont_at, sRetN_at, sRet_at, kRet_some, sExpr_at, kExpr_some, sSet_at, kSet_some, sIf_at, kIf_true, kIf_false, sPar2_k, kPar2_some, sPar3_k, kPar3_some, sAsg_at, kAsg_some, kAsg2_some, mName_at, mTup_2, mTup_3, mCons_at, kmCons_some, mNil_at, sPut_at, kp1_some, kp2_some, kp3_some, kp4_some, kFn_rt, kFn_nx, mkFn_0, mkFn_1, mkFn_2, mkFn_3, mkFn_4, mkFn_5, sWhile_at, List.getElem?_cons_zero, List.getElem?_cons_succ, List.set_cons_zero, List.set_cons_succ, List.replicate_succ, List.replicate_zero, Nat.reduceSub, Bool.not_true, Bool.not_false, ite_true, ite_false, if_true, if_false, reduceCtorEq, eq_str, in3, in4, atI0, atI1, Sgn.of, zLe, cmp_le_int, cmp_le_str, ixO_tup, List.cons.injEq, Nat.reduceEqDiff, decide_false, decide_true, and_false, and_true, false_and, true_and, Bool.or_false, Bool.or_true, Bool.true_or, Bool.false_or]

theorem two_gt (a b : W) (st : Sto) (ha : a.ok) (hb : b.ok) : F_two [.str [62], a.d, b.d] st = some (zGt.of a b, st) := by
  cases a <;> cases b <;> simp only [F_two, b_two, eVar_at, kVar_some, eC_at, eBin_at, k2_some, k3_some, eUn_at, k1_some, kVal_some, kBl_some, kEq_at, kBlN_some, kNe_at, kIn_at, kNotIn_at, kIx_at, ixO_tup, kLt_int, kLe_int, kGt_int, kGe_int, kLt_str, kLe_str, kGt_str, kGe_str, kIs_non, kIs_bl, kIs_int, kIs_str, kIs_tup, kIs_ref, kIsNot_non, kIsNot_bl, kIsNot_int, kIsNot_str, kIsNot_tup, kIsNot_ref, opAdd_int, opAdd_str, opSub_int, opMul_int, opDiv_int, opMod_int, opPow_int, opAnd_int, opOr_int, opNeg_int, eChain_at, kc1_some, kc2_some, kc3_true, kc3_false, kc4_some, tOf_at, kTru_some, kTru2_some, truD_non, truD_bl, truD_int, truD_tup, tAnd_at, kAnd_true, kAnd_false, tOr_at, kOr_true, kOr_false, tNot_at, kNot_some, tYes_at, eAnd_at, keAnd_some, keAnd2_true, keAnd2_false, eOr_at, keOr_some, keOr2_true, keOr2_false, eNot_at, keNot_some, keNot2_some, eIf_at, keIf_true, keIf_false, aNil_at, aCons_at, ka1_some, ka2_some, eTup_at, kTup_0, kTup_1, kTup_2, kTup_3, kTup_4, kTup_5, kTup_6, eLst_at, kLst_0, kLst_1, kLst_2, kLst_3, kLst_4, eDic0_at, eCall_at, kCall_some, o1_at, isiO_at, kIsi_some, tyD_non, tyD_bl, tyD_int, tyD_str, tyD_tup, eBM_at, kbm1_some, kbm2_some, eSl_at, ks2_some, ks3_some, ks4_some, oNone_at, oSome_at, kSome_int, slO_str, sSeq_at, kSeq_nx, kSeq_rt, kSeq_bk, kSeq_ct, sNext_at, sBreak_at, sCont_at, sRetN_at, sRet_at, kRet_some, sExpr_at, kExpr_some, sSet_at, kSet_some, sIf_at, kIf_true, kIf_false, sPar2_k, kPar2_some, sPar3_k, kPar3_some, sAsg_at, kAsg_some, kAsg2_some, mName_at, mTup_2, mTup_3, mCons_at, kmCons_some, mNil_at, sPut_at, kp1_some, kp2_some, kp3_some, kp4_some, kFn_rt, kFn_nx, mkFn_0, mkFn_1, mkFn_2, mkFn_3, mkFn_4, mkFn_5, sWhile_at, List.getElem?_cons_zero, List.getElem?_cons_succ, List.set_cons_zero, List.set_cons_succ, List.replicate_succ, List.replicate_zero, Nat.reduceSub, Bool.not_true, Bool.not_false, ite_true, ite_false, if_true, if_false, reduceCtorEq, eq_str, in3, in4, atI0, atI1, Sgn.of, zGt, cmp_gt_int, cmp_gt_str, ixO_tup, List.cons.injEq, Nat.reduceEqDiff, decide_false, decide_true, and_false, and_true, false_and, true_and, Bool.or_false, Bool.or_true, Bool.true_or, Bool.false_or]

theorem two_ge (a b : W) (st : Sto) (ha : a.ok) (hb : b.ok) : F_two [.str [62, 61], a.d, b.d] st = some (zGe.of a b, st) := by
  cases a <;> cases b <;> simp only [F_two, b_two, eVar_at, kVar_some, eC_at, eBin_at, k2_some, k3_some, eUn_at, k1_some, kVal_some, kBl_some, kEq_at, kBlN_some, kNe_at, kIn_at, kNotIn_at, kIx_at, ixO_tup, kLt_int, kLe_int, kGt_int, kGe_int, kLt_str, kLe_str, kGt_str, kGe_str, kIs_non, kIs_bl, kIs_int, kIs_str, kIs_tup, kIs_ref, kIsNot_non, kIsNot_bl, kIsNot_int, kIsNot_str, kIsNot_tup, kIsNot_ref, opAdd_int, opAdd_str, opSub_int, opMul_int, opDiv_int, opMod_int, opPow_int, opAnd_int, opOr_int, opNeg_int, eChain_at, kc1_some, kc2_some, kc3_true, kc3_false, kc4_some, tOf_at, kTru_some, kTru2_some, truD_non, truD_bl, truD_int, truD_tup, tAnd_at, kAnd_true, kAnd_false, tOr_at, kOr_true, kOr_false, tNot_at, kNot_some, tYes_at, eAnd_at, keAnd_some, keAnd2_true, keAnd2_false, eOr_at, keOr_some, keOr2_true, keOr2_false, eNot_at, keNot_some, keNot2_some, eIf_at, keIf_true, keIf_false, aNil_at, aCons_at, ka1_some, ka2_some, eTup_at, kTup_0, kTup_1, kTup_2, kTup_3, kTup_4, kTup_5, kTup_6, eLst_at, kLst_0, kLst_1, kLst_2, kLst_3, kLst_4, eDic0_at, eCall_at, kCall_some, o1_at, isiO_at, kIsi_some, tyD_non, tyD_bl, tyD_int, tyD_str, tyD_tup, eBM_at, kbm1_some, kbm2_some, eSl_at, ks2_some, ks3_some, ks4_some, oNone_at, oSome_at, kSome_int, slO_str, sSeq_at, kSeq_nx, kSeq_rt, kSeq_bk, kSeq_ct, sNext_at, sBreak_at, sCont_at, sRetN_at, sRet_at, kRet_some, sExpr_at, kExpr_some, sSet_at, kSet_some, sIf_at, kIf_true, kIf_false, sPar2_k, kPar2_some, sPar3_k, kPar3_some, sAsg_at, kAsg_some, kAsg2_some, mName_at, mTup_2, mTup_3, mCons_at, kmCons_some, mNil_at, sPut_at, kp1_some, kp2_some, kp3_some, kp4_some, kFn_rt, kFn_nx, mkFn_0, mkFn_1, mkFn_2, mkFn_3, mkFn_4, mkFn_5, sWhile_at, List.getElem?_cons_zero, List.getElem?_cons_succ, List.set_cons_zero, List.set_cons_succ, List.replicate_succ, List.replicate_zero, Nat.reduceSub, Bool.not_true, Bool.not_false, ite_true, ite_false, if_true, if_false, reduceCtorEq, eq_str, in3, in4, atI0, atI1, Sgn.of, zGe, cmp_ge_int, cmp_ge_str, ixO_tup, List.cons.injEq, Nat.reduceEqDiff, decide_false, decide_true, and_false, and_true, false_and, true_and, Bool.or_false, Bool.or_true, Bool.true_or, Bool.false_or]

theorem two_mul (a b : W) (st : Sto) (ha : a.ok) (hb : b.ok) : F_two [.str [42], a.d, b.d] st = some (zMul.of a b, st) := by
  cases a <;> cases b <;> simp only [F_two, b_two, eVar_at, kVar_some, eC_at, eBin_at, k2_some, k3_some, eUn_at, k1_some, kVal_some, kBl_some, kEq_at, kBlN_some, kNe_at, kIn_at, kNotIn_at, kIx_at, ixO_tup, kLt_int, kLe_int, kGt_int, kGe_int, kLt_str, kLe_str, kGt_str, kGe_str, kIs_non, kIs_bl, kIs_int, kIs_str, kIs_tup, kIs_ref, kIsNot_non, kIsNot_bl, kIsNot_int, kIsNot_str, kIsNot_tup, kIsNot_ref, opAdd_int, opAdd_str, opSub_int, opMul_int, opDiv_int, opMod_int, opPow_int, opAnd_int, opOr_int, opNeg_int, eChain_at, kc1_some, kc2_some, kc3_true, kc3_false, kc4_some, tOf_at, kTru_some, kTru2_some, truD_non, truD_bl, truD_int, truD_tup, tAnd_at, kAnd_true, kAnd_false, tOr_at, kOr_true, kOr_false, tNot_at, kNot_some, tYes_at, eAnd_at, keAnd_some, keAnd2_true, keAnd2_false, eOr_at, keOr_some, keOr2_true, keOr2_false, eNot_at, keNot_some, keNot2_some, eIf_at, keIf_true, keIf_false, aNil_at, aCons_at, ka1_some, ka2_some, eTup_at, kTup_0, kTup_1, kTup_2, kTup_3, kTup_4, kTup_5, kTup_6, eLst_at, kLst_0, kLst_1, kLst_2, kLst_3, kLst_4, eDic0_at, eCall_at, kCall_some, o1_at, isiO_at, kIsi_some, tyD_non, tyD_bl, tyD_int, tyD_str, tyD_tup, eBM_at, kbm1_some, kbm2_some, eSl_at, ks2_some, ks3_some, ks4_some, oNone_at, oSome_at, kSome_int, slO_str, sSeq_at, kSeq_nx, kSeq_rt, kSeq_bk, kSeq_ct, sNext_at, sBreak_at, sCont_at, sRetN_at, sRet_at, kRet_some, sExpr_at, kExpr_some, sSet_at, kSet_some, sIf_at, kIf_true, kIf_false, sPar2_k, kPar2_some, sPar3_k, kPar3_some, sAsg_at, kAsg_some, kAsg2_some, mName_at, mTup_2, mTup_3, mCons_at, kmCons_some, mNil_at, sPut_at, kp1_some, kp2_some, kp3_some, kp4_some, kFn_rt, kFn_nx, mkFn_0, mkFn_1, mkFn_2, mkFn_3, mkFn_4, mkFn_5, sWhile_at, List.getElem?_cons_zero, List.getElem?_cons_succ, List.set_cons_zero, List.set_cons_succ, List.replicate_succ, List.replicate_zero, Nat.reduceSub, Bool.not_true, Bool.not_false, ite_true, ite_false, if_true, if_false, reduceCtorEq, eq_str, in3, in4, atI0, atI1, Sgn.of, zMul, nums_sub, ixO_tup, List.cons.injEq, Nat.reduceEqDiff, decide_false, decide_true, and_false, and_true, false_and, true_and, Bool.or_false, Bool.or_true, Bool.true_or, Bool.false_or]
  rw [nums_mul _ _ _ ha hb]
  rfl

theorem two_div (a b : W) (st : Sto) (ha : a.ok) (hb : b.ok) : F_two [.str [47, 47], a.d, b.d] st = some (zDiv.of a b, st) := by
  cases a <;> cases b <;> simp only [F_two, b_two, eVar_at, kVar_some, eC_at, eBin_at, k2_some, k3_some, eUn_at, k1_some, kVal_some, kBl_some, kEq_at, kBlN_some, kNe_at, kIn_at, kNotIn_at, kIx_at, ixO_tup, kLt_int, kLe_int, kGt_int, kGe_int, kLt_str, kLe_str, kGt_str, kGe_str, kIs_non, kIs_bl, kIs_int, kIs_str, kIs_tup, kIs_ref, kIsNot_non, kIsNot_bl, kIsNot_int, kIsNot_str, kIsNot_tup, kIsNot_ref, opAdd_int, opAdd_str, opSub_int, opMul_int, opDiv_int, opMod_int, opPow_int, opAnd_int, opOr_int, opNeg_int, eChain_at, kc1_some, kc2_some, kc3_true, kc3_false, kc4_some, tOf_at, kTru_some, kTru2_some, truD_non, truD_bl, truD_int, truD_tup, tAnd_at, kAnd_true, kAnd_false, tOr_at, kOr_true, kOr_false, tNot_at, kNot_some, tYes_at, eAnd_at, keAnd_some, keAnd2_true, keAnd2_false, eOr_at, keOr_some, keOr2_true, keOr2_false, eNot_at, keNot_some, keNot2_some, eIf_at, keIf_true, keIf_false, aNil_at, aCons_at, ka1_some, ka2_some, eTup_at, kTup_0, kTup_1, kTup_2, kTup_3, kTup_4, kTup_5, kTup_6, eLst_at, kLst_0, kLst_1, kLst_2, kLst_3, kLst_4, eDic0_at, eCall_at, kCall_some, o1_at, isiO_at, kIsi_some, tyD_non, tyD_bl, tyD_int, tyD_str, tyD_tup, eBM_at, kbm1_some, kbm2_some, eSl_at, ks2_some, ks3_some, ks4_some, oNone_at, oSome_at, kSome_int, slO_str, sSeq_at, kSeq_nx, kSeq_rt, kSeq_bk, kSeq_ct, sNext_at, sBreak_at, sCont_at, sRetN_at, sRet_at, kRet_some, sExpr_at, kExpr_some, sSet_at, kSet_some, sIf_at, kIf_true, kIf_false, sPar2_k, kPar2_some, sPar3_k, kPar3_some, sAsg_at, kAsg_some, kAsg2_some, mName_at, mTup_2, mTup_3, mCons_at, kmCons_some, mNil_at, sPut_at, kp1_some, kp2_some, kp3_some, kp4_some, kFn_rt, kFn_nx, mkFn_0, mkFn_1, mkFn_2, mkFn_3, mkFn_4, mkFn_5, sWhile_at, List.getElem?_cons_zero, List.getElem?_cons_succ, List.set_cons_zero, List.set_cons_succ, List.replicate_succ, List.replicate_zero, Nat.reduceSub, Bool.not_true, Bool.not_false, ite_true, ite_false, if_true, if_false, reduceCtorEq, eq_str, in3, in4, atI0, atI1, Sgn.of, zDiv, nums_sub, ixO_tup, List.cons.injEq, Nat.reduceEqDiff, decide_false, decide_true, and_false, and_true, false_and, true_and, Bool.or_false, Bool.or_true, Bool.true_or, Bool.false_or]
  rw [nums_div _ _ _ hb]
  rfl

theorem two_eq (a b : W) (st : Sto) : F_two [.str [61, 61], a.d, b.d] st = some (vT (alike a b), st) := by
  have h := eq_alike st a b
  cases a <;> cases b <;> simp only [F_two, b_two, eVar_at, kVar_some, eC_at, eBin_at, k2_some, k3_some, eUn_at, k1_some, kVal_some, kBl_some, kEq_at, kBlN_some, kNe_at, kIn_at, kNotIn_at, kIx_at, ixO_tup, kLt_int, kLe_int, kGt_int, kGe_int, kLt_str, kLe_str, kGt_str, kGe_str, kIs_non, kIs_bl, kIs_int, kIs_str, kIs_tup, kIs_ref, kIsNot_non, kIsNot_bl, kIsNot_int, kIsNot_str, kIsNot_tup, kIsNot_ref, opAdd_int, opAdd_str, opSub_int, opMul_int, opDiv_int, opMod_int, opPow_int, opAnd_int, opOr_int, opNeg_int, eChain_at, kc1_some, kc2_some, kc3_true, kc3_false, kc4_some, tOf_at, kTru_some, kTru2_some, truD_non, truD_bl, truD_int, truD_tup, tAnd_at, kAnd_true, kAnd_false, tOr_at, kOr_true, kOr_false, tNot_at, kNot_some, tYes_at, eAnd_at, keAnd_some, keAnd2_true, keAnd2_false, eOr_at, keOr_some, keOr2_true, keOr2_false, eNot_at, keNot_some, keNot2_some, eIf_at, keIf_true, keIf_false, aNil_at, aCons_at, ka1_some, ka2_some, eTup_at, kTup_0, kTup_1, kTup_2, kTup_3, kTup_4, kTup_5, kTup_6, eLst_at, kLst_0, kLst_1, kLst_2, kLst_3, kLst_4, eDic0_at, eCall_at, kCall_some, o1_at, isiO_at, kIsi_some, tyD_non, tyD_bl, tyD_int, tyD_str, tyD_tup, eBM_at, kbm1_some, kbm2_some, eSl_at, ks2_some, ks3_some, ks4_some, oNone_at, oSome_at, kSome_int, slO_str, sSeq_at, kSeq_nx, kSeq_rt, kSeq_bk, kSeq_ct, sNext_at, sBreak_at, sCont_at, sRetN_at, sRet_at, kRet_some, sExpr_at, kExpr_some, sSet_at, kSet_some, sIf_at, kIf_true, kIf_false, sPar2_k, kPar2_some, sPar3_k, kPar3_some, sAsg_at, kAsg_some, kAsg2_some, mName_at, mTup_2, mTup_3, mCons_at, kmCons_some, mNil_at, sPut_at, kp1_some, kp2_some, kp3_some, kp4_some, kFn_rt, kFn_nx, mkFn_0, mkFn_1, mkFn_2, mkFn_3, mkFn_4, mkFn_5, sWhile_at, List.getElem?_cons_zero, List.getElem?_cons_succ, List.set_cons_zero, List.set_cons_succ, List.replicate_succ, List.replicate_zero, Nat.reduceSub, Bool.not_true, Bool.not_false, ite_true, ite_false, if_true, if_false, reduceCtorEq, eq_str, eq_bl, truth_answer, h, ixO_tup, List.cons.injEq, Nat.reduceEqDiff, decide_false, decide_true, and_false, and_true, false_and, true_and, Bool.or_false, Bool.or_true, Bool.true_or, Bool.false_or, beq_true]
theorem two_ne (a b : W) (st : Sto) : F_two [.str [33, 61], a.d, b.d] st = some (vT (!alike a b), st) := by
  have h := eq_alike st a b
  cases a <;> cases b <;> simp only [F_two, b_two, eVar_at, kVar_some, eC_at, eBin_at, k2_some, k3_some, eUn_at, k1_some, kVal_some, kBl_some, kEq_at, kBlN_some, kNe_at, kIn_at, kNotIn_at, kIx_at, ixO_tup, kLt_int, kLe_int, kGt_int, kGe_int, kLt_str, kLe_str, kGt_str, kGe_str, kIs_non, kIs_bl, kIs_int, kIs_str, kIs_tup, kIs_ref, kIsNot_non, kIsNot_bl, kIsNot_int, kIsNot_str, kIsNot_tup, kIsNot_ref, opAdd_int, opAdd_str, opSub_int, opMul_int, opDiv_int, opMod_int, opPow_int, opAnd_int, opOr_int, opNeg_int, eChain_at, kc1_some, kc2_some, kc3_true, kc3_false, kc4_some, tOf_at, kTru_some, kTru2_some, truD_non, truD_bl, truD_int, truD_tup, tAnd_at, kAnd_true, kAnd_false, tOr_at, kOr_true, kOr_false, tNot_at, kNot_some, tYes_at, eAnd_at, keAnd_some, keAnd2_true, keAnd2_false, eOr_at, keOr_some, keOr2_true, keOr2_false, eNot_at, keNot_some, keNot2_some, eIf_at, keIf_true, keIf_false, aNil_at, aCons_at, ka1_some, ka2_some, eTup_at, kTup_0, kTup_1, kTup_2, kTup_3, kTup_4, kTup_5, kTup_6, eLst_at, kLst_0, kLst_1, kLst_2, kLst_3, kLst_4, eDic0_at, eCall_at, kCall_some, o1_at, isiO_at, kIsi_some, tyD_non, tyD_bl, tyD_int, tyD_str, tyD_tup, eBM_at, kbm1_some, kbm2_some, eSl_at, ks2_some, ks3_some, ks4_some, oNone_at, oSome_at, kSome_int, slO_str, sSeq_at, kSeq_nx, kSeq_rt, kSeq_bk, kSeq_ct, sNext_at, sBreak_at, sCont_at, sRetN_at, sRet_at, kRet_some, sExpr_at, kExpr_some, sSet_at, kSet_some, sIf_at, kIf_true, kIf_false, sPar2_k, kPar2_some, sPar3_k, kPar3_some, sAsg_at, kAsg_some, kAsg2_some, mName_at, mTup_2, mTup_3, mCons_at, kmCons_some, mNil_at, sPut_at, kp1_some, kp2_some, kp3_some, kp4_some, kFn_rt, kFn_nx, mkFn_0, mkFn_1, mkFn_2, mkFn_3, mkFn_4, mkFn_5, sWhile_at, List.getElem?_cons_zero, List.getElem?_cons_succ, List.set_cons_zero, List.set_cons_succ, List.replicate_succ, List.replicate_zero, Nat.reduceSub, Bool.not_true, Bool.not_false, ite_true, ite_false, if_true, if_false, reduceCtorEq, eq_str, eq_bl, truth_answer, h, ixO_tup, List.cons.injEq, Nat.reduceEqDiff, decide_false, decide_true, and_false, and_true, false_and, true_and, Bool.or_false, Bool.or_true, Bool.true_or, Bool.false_or, beq_false]
end Math

set_option maxRecDepth 100000
set_option maxHeartbeats 4000000
namespace Math
open MP Text PySem
/-! ### the law's dividing -/
theorem div_up {k m : Int} (hm : 0 < m) (hk : k < 0) : 0 - (-k) / m - (if (-k) / m * m < -k then 1 else 0) = k / m := by
  have h1 := Int.mul_ediv_add_emod (-k) m
  have h2 := Int.emod_nonneg (-k) (show m ≠ 0 by omega)
  have h3 := Int.emod_lt_of_pos (-k) hm
  generalize hq : (-k) / m = q at *
  generalize hr : (-k) % m = r at *
  have h4 : q * m = m * q := Int.mul_comm q m
  rw [h4]
  by_cases hr0 : r = 0
  · rw [if_neg (by omega)]
    have e : k = m * (-q) := by
      rw [Int.mul_neg]
      omega
    rw [e, Int.mul_ediv_cancel_left _ (by omega)]
    omega
  · rw [if_pos (by omega)]
    have e : k = (m - r) + m * (-q - 1) := by
      have : m * (-q - 1) = -(m * q) - m := by
        rw [Int.mul_sub, Int.mul_neg, Int.mul_one]
      omega
    rw [e, Int.add_mul_ediv_left _ _ (by omega), Int.ediv_eq_zero_of_lt (by omega) (by omega)]
    omega
theorem gDiv_neg {i j : Int} (hj : j < 0) : gDiv i j = (-i) / (-j) := by
  rw [gDiv_eq, ← Int.neg_fdiv_neg, Int.fdiv_eq_ediv_of_nonneg _ (by omega)]
theorem abs_log {i : Int} (h : W.ok (.num i)) : W.ok (.num (-i)) := by
  obtain ⟨h1, h2⟩ := h
  exact ⟨by omega, by omega⟩
theorem div_log {i j : Int} (h : W.ok (.num i)) (hi : 0 ≤ i) (hj : 0 < j) : W.ok (.num (i / j)) := by
  obtain ⟨h1, h2⟩ := h
  have h3 : 0 ≤ i / j := Int.ediv_nonneg hi (by omega)
  have h4 : i / j ≤ i := Int.ediv_le_self _ hi
  exact ⟨by omega, by omega⟩
theorem gDiv_pos {i j : Int} (hj : 0 < j) : gDiv i j = i / j := by
  unfold gDiv
  rw [if_pos hj]
theorem divided (i j : Int) (st : Sto) (hi : W.ok (.num i)) (hj : W.ok (.num j)) (h0 : j ≠ 0) : F_l_divided [.int i, .int j] st = some (.int (gDiv i j), st) := by
  by_cases h1 : i < 0
  · by_cases h2 : j < 0
    · have hd : cDiv (-i) (-j) = true := cDiv_ok' (abs_log hj) (by omega)
      simp only [F_l_divided, b_l_divided, eVar_at, kVar_some, eC_at, eBin_at, k2_some, k3_some, eUn_at, k1_some, kVal_some, kBl_some, kEq_at, kBlN_some, kNe_at, kIn_at, kNotIn_at, kIx_at, ixO_tup, kLt_int, kLe_int, kGt_int, kGe_int, kLt_str, kLe_str, kGt_str, kGe_str, kIs_non, kIs_bl, kIs_int, kIs_str, kIs_tup, kIs_ref, kIsNot_non, kIsNot_bl, kIsNot_int, kIsNot_str, kIsNot_tup, kIsNot_ref, opAdd_int, opAdd_str, opSub_int, opMul_int, opDiv_int, opMod_int, opPow_int, opAnd_int, opOr_int, opNeg_int, eChain_at, kc1_some, kc2_some, kc3_true, kc3_false, kc4_some, tOf_at, kTru_some, kTru2_some, truD_non, truD_bl, truD_int, truD_tup, tAnd_at, kAnd_true, kAnd_false, tOr_at, kOr_true, kOr_false, tNot_at, kNot_some, tYes_at, eAnd_at, keAnd_some, keAnd2_true, keAnd2_false, eOr_at, keOr_some, keOr2_true, keOr2_false, eNot_at, keNot_some, keNot2_some, eIf_at, keIf_true, keIf_false, aNil_at, aCons_at, ka1_some, ka2_some, eTup_at, kTup_0, kTup_1, kTup_2, kTup_3, kTup_4, kTup_5, kTup_6, eLst_at, kLst_0, kLst_1, kLst_2, kLst_3, kLst_4, eDic0_at, eCall_at, kCall_some, o1_at, isiO_at, kIsi_some, tyD_non, tyD_bl, tyD_int, tyD_str, tyD_tup, eBM_at, kbm1_some, kbm2_some, eSl_at, ks2_some, ks3_some, ks4_some, oNone_at, oSome_at, kSome_int, slO_str, sSeq_at, kSeq_nx, kSeq_rt, kSeq_bk, kSeq_ct, sNext_at, sBreak_at, sCont_at, sRetN_at, sRet_at, kRet_some, sExpr_at, kExpr_some, sSet_at, kSet_some, sIf_at, kIf_true, kIf_false, sPar2_k, kPar2_some, sPar3_k, kPar3_some, sAsg_at, kAsg_some, kAsg2_some, mName_at, mTup_2, mTup_3, mCons_at, kmCons_some, mNil_at, sPut_at, kp1_some, kp2_some, kp3_some, kp4_some, kFn_rt, kFn_nx, mkFn_0, mkFn_1, mkFn_2, mkFn_3, mkFn_4, mkFn_5, sWhile_at, List.getElem?_cons_zero, List.getElem?_cons_succ, List.set_cons_zero, List.set_cons_succ, List.replicate_succ, List.replicate_zero, Nat.reduceSub, Bool.not_true, Bool.not_false, ite_true, ite_false, if_true, if_false, reduceCtorEq, absO, eq_bl, h1, h2, hd, decide_true, beq_self_eq_true]
      rw [gDiv_neg h2, gDiv_pos (by omega)]
    · have hd : cDiv (-i) j = true := cDiv_ok' hj (by omega)
      have hj' : 0 < j := by omega
      have hm : cMul ((-i) / j) j = true := cMul_ok' (div_log (abs_log hi) (by omega) hj') hj
      simp only [F_l_divided, b_l_divided, eVar_at, kVar_some, eC_at, eBin_at, k2_some, k3_some, eUn_at, k1_some, kVal_some, kBl_some, kEq_at, kBlN_some, kNe_at, kIn_at, kNotIn_at, kIx_at, ixO_tup, kLt_int, kLe_int, kGt_int, kGe_int, kLt_str, kLe_str, kGt_str, kGe_str, kIs_non, kIs_bl, kIs_int, kIs_str, kIs_tup, kIs_ref, kIsNot_non, kIsNot_bl, kIsNot_int, kIsNot_str, kIsNot_tup, kIsNot_ref, opAdd_int, opAdd_str, opSub_int, opMul_int, opDiv_int, opMod_int, opPow_int, opAnd_int, opOr_int, opNeg_int, eChain_at, kc1_some, kc2_some, kc3_true, kc3_false, kc4_some, tOf_at, kTru_some, kTru2_some, truD_non, truD_bl, truD_int, truD_tup, tAnd_at, kAnd_true, kAnd_false, tOr_at, kOr_true, kOr_false, tNot_at, kNot_some, tYes_at, eAnd_at, keAnd_some, keAnd2_true, keAnd2_false, eOr_at, keOr_some, keOr2_true, keOr2_false, eNot_at, keNot_some, keNot2_some, eIf_at, keIf_true, keIf_false, aNil_at, aCons_at, ka1_some, ka2_some, eTup_at, kTup_0, kTup_1, kTup_2, kTup_3, kTup_4, kTup_5, kTup_6, eLst_at, kLst_0, kLst_1, kLst_2, kLst_3, kLst_4, eDic0_at, eCall_at, kCall_some, o1_at, isiO_at, kIsi_some, tyD_non, tyD_bl, tyD_int, tyD_str, tyD_tup, eBM_at, kbm1_some, kbm2_some, eSl_at, ks2_some, ks3_some, ks4_some, oNone_at, oSome_at, kSome_int, slO_str, sSeq_at, kSeq_nx, kSeq_rt, kSeq_bk, kSeq_ct, sNext_at, sBreak_at, sCont_at, sRetN_at, sRet_at, kRet_some, sExpr_at, kExpr_some, sSet_at, kSet_some, sIf_at, kIf_true, kIf_false, sPar2_k, kPar2_some, sPar3_k, kPar3_some, sAsg_at, kAsg_some, kAsg2_some, mName_at, mTup_2, mTup_3, mCons_at, kmCons_some, mNil_at, sPut_at, kp1_some, kp2_some, kp3_some, kp4_some, kFn_rt, kFn_nx, mkFn_0, mkFn_1, mkFn_2, mkFn_3, mkFn_4, mkFn_5, sWhile_at, List.getElem?_cons_zero, List.getElem?_cons_succ, List.set_cons_zero, List.set_cons_succ, List.replicate_succ, List.replicate_zero, Nat.reduceSub, Bool.not_true, Bool.not_false, ite_true, ite_false, if_true, if_false, reduceCtorEq, absO, eq_bl, h1, h2, hd, decide_true, decide_false, show ((true == false) = false) from rfl, gDiv_pos hj', hm, intO, decide_eq_true_eq]
      rw [div_up hj' h1]
  · by_cases h2 : j < 0
    · have hd : cDiv i (-j) = true := cDiv_ok' (abs_log hj) (by omega)
      have hj' : 0 < -j := by omega
      have hm : cMul (i / (-j)) (-j) = true := cMul_ok' (div_log hi (by omega) hj') (abs_log hj)
      simp only [F_l_divided, b_l_divided, eVar_at, kVar_some, eC_at, eBin_at, k2_some, k3_some, eUn_at, k1_some, kVal_some, kBl_some, kEq_at, kBlN_some, kNe_at, kIn_at, kNotIn_at, kIx_at, ixO_tup, kLt_int, kLe_int, kGt_int, kGe_int, kLt_str, kLe_str, kGt_str, kGe_str, kIs_non, kIs_bl, kIs_int, kIs_str, kIs_tup, kIs_ref, kIsNot_non, kIsNot_bl, kIsNot_int, kIsNot_str, kIsNot_tup, kIsNot_ref, opAdd_int, opAdd_str, opSub_int, opMul_int, opDiv_int, opMod_int, opPow_int, opAnd_int, opOr_int, opNeg_int, eChain_at, kc1_some, kc2_some, kc3_true, kc3_false, kc4_some, tOf_at, kTru_some, kTru2_some, truD_non, truD_bl, truD_int, truD_tup, tAnd_at, kAnd_true, kAnd_false, tOr_at, kOr_true, kOr_false, tNot_at, kNot_some, tYes_at, eAnd_at, keAnd_some, keAnd2_true, keAnd2_false, eOr_at, keOr_some, keOr2_true, keOr2_false, eNot_at, keNot_some, keNot2_some, eIf_at, keIf_true, keIf_false, aNil_at, aCons_at, ka1_some, ka2_some, eTup_at, kTup_0, kTup_1, kTup_2, kTup_3, kTup_4, kTup_5, kTup_6, eLst_at, kLst_0, kLst_1, kLst_2, kLst_3, kLst_4, eDic0_at, eCall_at, kCall_some, o1_at, isiO_at, kIsi_some, tyD_non, tyD_bl, tyD_int, tyD_str, tyD_tup, eBM_at, kbm1_some, kbm2_some, eSl_at, ks2_some, ks3_some, ks4_some, oNone_at, oSome_at, kSome_int, slO_str, sSeq_at, kSeq_nx, kSeq_rt, kSeq_bk, kSeq_ct, sNext_at, sBreak_at, sCont_at, sRetN_at, sRet_at, kRet_some, sExpr_at, kExpr_some, sSet_at, kSet_some, sIf_at, kIf_true, kIf_false, sPar2_k, kPar2_some, sPar3_k, kPar3_some, sAsg_at, kAsg_some, kAsg2_some, mName_at, mTup_2, mTup_3, mCons_at, kmCons_some, mNil_at, sPut_at, kp1_some, kp2_some, kp3_some, kp4_some, kFn_rt, kFn_nx, mkFn_0, mkFn_1, mkFn_2, mkFn_3, mkFn_4, mkFn_5, sWhile_at, List.getElem?_cons_zero, List.getElem?_cons_succ, List.set_cons_zero, List.set_cons_succ, List.replicate_succ, List.replicate_zero, Nat.reduceSub, Bool.not_true, Bool.not_false, ite_true, ite_false, if_true, if_false, reduceCtorEq, absO, eq_bl, h1, h2, hd, decide_true, decide_false, show ((false == true) = false) from rfl, gDiv_pos hj', hm, intO, decide_eq_true_eq]
      rw [gDiv_neg h2]
      by_cases hz : i = 0
      · subst hz
        simp
      · have e := div_up (k := -i) hj' (by omega)
        rw [Int.neg_neg] at e
        rw [e]
    · have hd : cDiv i j = true := cDiv_ok' hj h0
      simp only [F_l_divided, b_l_divided, eVar_at, kVar_some, eC_at, eBin_at, k2_some, k3_some, eUn_at, k1_some, kVal_some, kBl_some, kEq_at, kBlN_some, kNe_at, kIn_at, kNotIn_at, kIx_at, ixO_tup, kLt_int, kLe_int, kGt_int, kGe_int, kLt_str, kLe_str, kGt_str, kGe_str, kIs_non, kIs_bl, kIs_int, kIs_str, kIs_tup, kIs_ref, kIsNot_non, kIsNot_bl, kIsNot_int, kIsNot_str, kIsNot_tup, kIsNot_ref, opAdd_int, opAdd_str, opSub_int, opMul_int, opDiv_int, opMod_int, opPow_int, opAnd_int, opOr_int, opNeg_int, eChain_at, kc1_some, kc2_some, kc3_true, kc3_false, kc4_some, tOf_at, kTru_some, kTru2_some, truD_non, truD_bl, truD_int, truD_tup, tAnd_at, kAnd_true, kAnd_false, tOr_at, kOr_true, kOr_false, tNot_at, kNot_some, tYes_at, eAnd_at, keAnd_some, keAnd2_true, keAnd2_false, eOr_at, keOr_some, keOr2_true, keOr2_false, eNot_at, keNot_some, keNot2_some, eIf_at, keIf_true, keIf_false, aNil_at, aCons_at, ka1_some, ka2_some, eTup_at, kTup_0, kTup_1, kTup_2, kTup_3, kTup_4, kTup_5, kTup_6, eLst_at, kLst_0, kLst_1, kLst_2, kLst_3, kLst_4, eDic0_at, eCall_at, kCall_some, o1_at, isiO_at, kIsi_some, tyD_non, tyD_bl, tyD_int, tyD_str, tyD_tup, eBM_at, kbm1_some, kbm2_some, eSl_at, ks2_some, ks3_some, ks4_some, oNone_at, oSome_at, kSome_int, slO_str, sSeq_at, kSeq_nx, kSeq_rt, kSeq_bk, kSeq_ct, sNext_at, sBreak_at, sCont_at, sRetN_at, sRet_at, kRet_some, sExpr_at, kExpr_some, sSet_at, kSet_some, sIf_at, kIf_true, kIf_false, sPar2_k, kPar2_some, sPar3_k, kPar3_some, sAsg_at, kAsg_some, kAsg2_some, mName_at, mTup_2, mTup_3, mCons_at, kmCons_some, mNil_at, sPut_at, kp1_some, kp2_some, kp3_some, kp4_some, kFn_rt, kFn_nx, mkFn_0, mkFn_1, mkFn_2, mkFn_3, mkFn_4, mkFn_5, sWhile_at, List.getElem?_cons_zero, List.getElem?_cons_succ, List.set_cons_zero, List.set_cons_succ, List.replicate_succ, List.replicate_zero, Nat.reduceSub, Bool.not_true, Bool.not_false, ite_true, ite_false, if_true, if_false, reduceCtorEq, absO, eq_bl, h1, h2, hd, decide_false, beq_self_eq_true]
/-! ### bit by bit -/
/-- and, or of one bit -/
def bit1 (o : Bool) (a b : Nat) : Nat := if a + b = 2 ∨ (a + b = 1 ∧ o = true) then 1 else 0
/-- and, or of numbers -/
def bitN (o : Bool) (a b : Nat) : Nat := if o then a ||| b else a &&& b
theorem bitN_step (o : Bool) (a b : Nat) : bitN o a b = 2 * bitN o (a / 2) (b / 2) + bit1 o (a % 2) (b % 2) := by
  have h2 : bitN o a b / 2 = bitN o (a / 2) (b / 2) := by
    cases o with
    | true =>
      show (a ||| b) / 2 = a / 2 ||| b / 2
      exact Nat.or_div_two
    | false =>
      show (a &&& b) / 2 = a / 2 &&& b / 2
      exact Nat.and_div_two
  have h3 : bitN o a b % 2 = bit1 o (a % 2) (b % 2) := by
    have ha : a % 2 = 0 ∨ a % 2 = 1 := by omega
    have hb : b % 2 = 0 ∨ b % 2 = 1 := by omega
    cases o with
    | true =>
      show (a ||| b) % 2 = _
      have e : (a ||| b) % 2 = (a % 2) ||| (b % 2) := by
        have := Nat.or_mod_two_pow (a := a) (b := b) (n := 1)
        simpa using this
      rw [e]
      rcases ha with ha | ha <;> rcases hb with hb | hb <;> rw [ha, hb] <;> rfl
    | false =>
      show (a &&& b) % 2 = _
      have e : (a &&& b) % 2 = (a % 2) &&& (b % 2) := by
        have := Nat.and_mod_two_pow (a := a) (b := b) (n := 1)
        simpa using this
      rw [e]
      rcases ha with ha | ha <;> rcases hb with hb | hb <;> rw [ha, hb] <;> rfl
  omega
end Math

set_option maxRecDepth 100000
set_option maxHeartbeats 4000000
namespace Math
open MP Text PySem
def sgB (o : Bool) : List Nat := if o then [124] else [38]
theorem gMod2 (a : Nat) : gMod (a : Int) 2 = ((a % 2 : Nat) : Int) := by
  unfold gMod
  rw [if_pos (by decide)]
  omega
theorem gDiv2 (a : Nat) : gDiv (a : Int) 2 = ((a / 2 : Nat) : Int) := by
  unfold gDiv
  rw [if_pos (by decide)]
  omega
theorem cMul2 (w : Int) : cMul w 2 = true := decide_eq_true (.inr (.inl (by decide)))
theorem cDiv2 (w : Int) : cDiv w 2 = true := decide_eq_true ⟨by decide, by decide⟩
theorem cMod2 (w : Int) : cMod w 2 = true := decide_eq_true (by decide)
theorem bits_loop (o : Bool) (st : Sto) : ∀ (n a b : Nat) (f w : Int) (q : Option D), a < 2 ^ n → b < 2 ^ n →
    ∃ a' b' w' q', loopW tW_l_bits_1 uW_l_bits_2 (n + 1) [some (.str (sgB o)), some (.int (a : Int)), some (.int (b : Int)), some (.int f), some (.int w), q] st
      = some (.nx, [some (.str (sgB o)), a', b', some (.int (f + w * (bitN o a b : Nat))), w', q'], st) := by
  have stop : ∀ (n : Nat) (f w : Int) (q : Option D), loopW tW_l_bits_1 uW_l_bits_2 (n + 1) [some (.str (sgB o)), some (.int 0), some (.int 0), some (.int f), some (.int w), q] st
      = some (.nx, [some (.str (sgB o)), some (.int 0), some (.int 0), some (.int f), some (.int w), q], st) := fun n f w q => by
    unfold loopW
    have e : tW_l_bits_1 [some (.str (sgB o)), some (.int 0), some (.int 0), some (.int f), some (.int w), q] st = some (false, st) := by
      simp only [tW_l_bits_1, eVar_at, kVar_some, eC_at, eBin_at, k2_some, k3_some, eUn_at, k1_some, kVal_some, kBl_some, kEq_at, kBlN_some, kNe_at, kIn_at, kNotIn_at, kIx_at, ixO_tup, kLt_int, kLe_int, kGt_int, kGe_int, kLt_str, kLe_str, kGt_str, kGe_str, kIs_non, kIs_bl, kIs_int, kIs_str, kIs_tup, kIs_ref, kIsNot_non, kIsNot_bl, kIsNot_int, kIsNot_str, kIsNot_tup, kIsNot_ref, opAdd_int, opAdd_str, opSub_int, opMul_int, opDiv_int, opMod_int, opPow_int, opAnd_int, opOr_int, opNeg_int, eChain_at, kc1_some, kc2_some, kc3_true, kc3_false, kc4_some, tOf_at, kTru_some, kTru2_some, truD_non, truD_bl, truD_int, truD_tup, tAnd_at, kAnd_true, kAnd_false, tOr_at, kOr_true, kOr_false, tNot_at, kNot_some, tYes_at, eAnd_at, keAnd_some, keAnd2_true, keAnd2_false, eOr_at, keOr_some, keOr2_true, keOr2_false, eNot_at, keNot_some, keNot2_some, eIf_at, keIf_true, keIf_false, aNil_at, aCons_at, ka1_some, ka2_some, eTup_at, kTup_0, kTup_1, kTup_2, kTup_3, kTup_4, kTup_5, kTup_6, eLst_at, kLst_0, kLst_1, kLst_2, kLst_3, kLst_4, eDic0_at, eCall_at, kCall_some, o1_at, isiO_at, kIsi_some, tyD_non, tyD_bl, tyD_int, tyD_str, tyD_tup, eBM_at, kbm1_some, kbm2_some, eSl_at, ks2_some, ks3_some, ks4_some, oNone_at, oSome_at, kSome_int, slO_str, sSeq_at, kSeq_nx, kSeq_rt, kSeq_bk, kSeq_ct, sNext_at, sBreak_at, sCont_at, sRetN_at, sRet_at, kRet_some, sExpr_at, kExpr_some, sSet_at, kSet_some, sIf_at, kIf_true, kIf_false, sPar2_k, kPar2_some, sPar3_k, kPar3_some, sAsg_at, kAsg_some, kAsg2_some, mName_at, mTup_2, mTup_3, mCons_at, kmCons_some, mNil_at, sPut_at, kp1_some, kp2_some, kp3_some, kp4_some, kFn_rt, kFn_nx, mkFn_0, mkFn_1, mkFn_2, mkFn_3, mkFn_4, mkFn_5, sWhile_at, List.getElem?_cons_zero, List.getElem?_cons_succ, List.set_cons_zero, List.set_cons_succ, List.replicate_succ, List.replicate_zero, Nat.reduceSub, Bool.not_true, Bool.not_false, ite_true, ite_false, if_true, if_false, reduceCtorEq, Int.lt_irrefl, decide_false]
    rw [e]
    rfl
  intro n
  induction n with
  | zero =>
    intro a b f w q ha hb
    have ha0 : a = 0 := by simpa using ha
    have hb0 : b = 0 := by simpa using hb
    subst ha0 hb0
    have e : bitN o 0 0 = 0 := by cases o <;> rfl
    refine ⟨some (.int 0), some (.int 0), some (.int w), q, ?_⟩
    rw [e]
    simpa using stop 0 f w q
  | succ n ih =>
    intro a b f w q ha hb
    by_cases hz : a = 0 ∧ b = 0
    · obtain ⟨ha0, hb0⟩ := hz
      subst ha0 hb0
      have e : bitN o 0 0 = 0 := by cases o <;> rfl
      refine ⟨some (.int 0), some (.int 0), some (.int w), q, ?_⟩
      rw [e]
      simpa using stop (n + 1) f w q
    · have ht : tW_l_bits_1 [some (.str (sgB o)), some (.int (a : Int)), some (.int (b : Int)), some (.int f), some (.int w), q] st = some (true, st) := by
        by_cases ha0 : (0 : Int) < (a : Int)
        · simp only [tW_l_bits_1, eVar_at, kVar_some, eC_at, eBin_at, k2_some, k3_some, eUn_at, k1_some, kVal_some, kBl_some, kEq_at, kBlN_some, kNe_at, kIn_at, kNotIn_at, kIx_at, ixO_tup, kLt_int, kLe_int, kGt_int, kGe_int, kLt_str, kLe_str, kGt_str, kGe_str, kIs_non, kIs_bl, kIs_int, kIs_str, kIs_tup, kIs_ref, kIsNot_non, kIsNot_bl, kIsNot_int, kIsNot_str, kIsNot_tup, kIsNot_ref, opAdd_int, opAdd_str, opSub_int, opMul_int, opDiv_int, opMod_int, opPow_int, opAnd_int, opOr_int, opNeg_int, eChain_at, kc1_some, kc2_some, kc3_true, kc3_false, kc4_some, tOf_at, kTru_some, kTru2_some, truD_non, truD_bl, truD_int, truD_tup, tAnd_at, kAnd_true, kAnd_false, tOr_at, kOr_true, kOr_false, tNot_at, kNot_some, tYes_at, eAnd_at, keAnd_some, keAnd2_true, keAnd2_false, eOr_at, keOr_some, keOr2_true, keOr2_false, eNot_at, keNot_some, keNot2_some, eIf_at, keIf_true, keIf_false, aNil_at, aCons_at, ka1_some, ka2_some, eTup_at, kTup_0, kTup_1, kTup_2, kTup_3, kTup_4, kTup_5, kTup_6, eLst_at, kLst_0, kLst_1, kLst_2, kLst_3, kLst_4, eDic0_at, eCall_at, kCall_some, o1_at, isiO_at, kIsi_some, tyD_non, tyD_bl, tyD_int, tyD_str, tyD_tup, eBM_at, kbm1_some, kbm2_some, eSl_at, ks2_some, ks3_some, ks4_some, oNone_at, oSome_at, kSome_int, slO_str, sSeq_at, kSeq_nx, kSeq_rt, kSeq_bk, kSeq_ct, sNext_at, sBreak_at, sCont_at, sRetN_at, sRet_at, kRet_some, sExpr_at, kExpr_some, sSet_at, kSet_some, sIf_at, kIf_true, kIf_false, sPar2_k, kPar2_some, sPar3_k, kPar3_some, sAsg_at, kAsg_some, kAsg2_some, mName_at, mTup_2, mTup_3, mCons_at, kmCons_some, mNil_at, sPut_at, kp1_some, kp2_some, kp3_some, kp4_some, kFn_rt, kFn_nx, mkFn_0, mkFn_1, mkFn_2, mkFn_3, mkFn_4, mkFn_5, sWhile_at, List.getElem?_cons_zero, List.getElem?_cons_succ, List.set_cons_zero, List.set_cons_succ, List.replicate_succ, List.replicate_zero, Nat.reduceSub, Bool.not_true, Bool.not_false, ite_true, ite_false, if_true, if_false, reduceCtorEq, ha0, decide_true]
        · have hb0 : (0 : Int) < (b : Int) := by omega
          simp only [tW_l_bits_1, eVar_at, kVar_some, eC_at, eBin_at, k2_some, k3_some, eUn_at, k1_some, kVal_some, kBl_some, kEq_at, kBlN_some, kNe_at, kIn_at, kNotIn_at, kIx_at, ixO_tup, kLt_int, kLe_int, kGt_int, kGe_int, kLt_str, kLe_str, kGt_str, kGe_str, kIs_non, kIs_bl, kIs_int, kIs_str, kIs_tup, kIs_ref, kIsNot_non, kIsNot_bl, kIsNot_int, kIsNot_str, kIsNot_tup, kIsNot_ref, opAdd_int, opAdd_str, opSub_int, opMul_int, opDiv_int, opMod_int, opPow_int, opAnd_int, opOr_int, opNeg_int, eChain_at, kc1_some, kc2_some, kc3_true, kc3_false, kc4_some, tOf_at, kTru_some, kTru2_some, truD_non, truD_bl, truD_int, truD_tup, tAnd_at, kAnd_true, kAnd_false, tOr_at, kOr_true, kOr_false, tNot_at, kNot_some, tYes_at, eAnd_at, keAnd_some, keAnd2_true, keAnd2_false, eOr_at, keOr_some, keOr2_true, keOr2_false, eNot_at, keNot_some, keNot2_some, eIf_at, keIf_true, keIf_false, aNil_at, aCons_at, ka1_some, ka2_some, eTup_at, kTup_0, kTup_1, kTup_2, kTup_3, kTup_4, kTup_5, kTup_6, eLst_at, kLst_0, kLst_1, kLst_2, kLst_3, kLst_4, eDic0_at, eCall_at, kCall_some, o1_at, isiO_at, kIsi_some, tyD_non, tyD_bl, tyD_int, tyD_str, tyD_tup, eBM_at, kbm1_some, kbm2_some, eSl_at, ks2_some, ks3_some, ks4_some, oNone_at, oSome_at, kSome_int, slO_str, sSeq_at, kSeq_nx, kSeq_rt, kSeq_bk, kSeq_ct, sNext_at, sBreak_at, sCont_at, sRetN_at, sRet_at, kRet_some, sExpr_at, kExpr_some, sSet_at, kSet_some, sIf_at, kIf_true, kIf_false, sPar2_k, kPar2_some, sPar3_k, kPar3_some, sAsg_at, kAsg_some, kAsg2_some, mName_at, mTup_2, mTup_3, mCons_at, kmCons_some, mNil_at, sPut_at, kp1_some, kp2_some, kp3_some, kp4_some, kFn_rt, kFn_nx, mkFn_0, mkFn_1, mkFn_2, mkFn_3, mkFn_4, mkFn_5, sWhile_at, List.getElem?_cons_zero, List.getElem?_cons_succ, List.set_cons_zero, List.set_cons_succ, List.replicate_succ, List.replicate_zero, Nat.reduceSub, Bool.not_true, Bool.not_false, ite_true, ite_false, if_true, if_false, reduceCtorEq, ha0, hb0, decide_true, decide_false]
      have hs : eqO st (.str (sgB o)) (.str [124]) = some o := by
        rw [eq_str]
        cases o <;> rfl
      have hu : uW_l_bits_2 [some (.str (sgB o)), some (.int (a : Int)), some (.int (b : Int)), some (.int f), some (.int w), q] st
          = some (.nx, [some (.str (sgB o)), some (.int ((a / 2 : Nat) : Int)), some (.int ((b / 2 : Nat) : Int)), some (.int (f + w * (bit1 o (a % 2) (b % 2) : Nat))), some (.int (w * 2)), some (.int (((a % 2 : Nat) : Int) + ((b % 2 : Nat) : Int)))], st) := by
        have e2 : (((a % 2 : Nat) : Int) + ((b % 2 : Nat) : Int) == 2) = decide (a % 2 + b % 2 = 2) := by
          apply Bool.eq_iff_iff.mpr
          rw [beq_iff_eq, decide_eq_true_eq]
          omega
        have e1 : (((a % 2 : Nat) : Int) + ((b % 2 : Nat) : Int) == 1) = decide (a % 2 + b % 2 = 1) := by
          apply Bool.eq_iff_iff.mpr
          rw [beq_iff_eq, decide_eq_true_eq]
          omega
        by_cases h2 : a % 2 + b % 2 = 2
        · have e3 : bit1 o (a % 2) (b % 2) = 1 := by
            unfold bit1
            rw [if_pos (.inl h2)]
          simp only [uW_l_bits_2, eVar_at, kVar_some, eC_at, eBin_at, k2_some, k3_some, eUn_at, k1_some, kVal_some, kBl_some, kEq_at, kBlN_some, kNe_at, kIn_at, kNotIn_at, kIx_at, ixO_tup, kLt_int, kLe_int, kGt_int, kGe_int, kLt_str, kLe_str, kGt_str, kGe_str, kIs_non, kIs_bl, kIs_int, kIs_str, kIs_tup, kIs_ref, kIsNot_non, kIsNot_bl, kIsNot_int, kIsNot_str, kIsNot_tup, kIsNot_ref, opAdd_int, opAdd_str, opSub_int, opMul_int, opDiv_int, opMod_int, opPow_int, opAnd_int, opOr_int, opNeg_int, eChain_at, kc1_some, kc2_some, kc3_true, kc3_false, kc4_some, tOf_at, kTru_some, kTru2_some, truD_non, truD_bl, truD_int, truD_tup, tAnd_at, kAnd_true, kAnd_false, tOr_at, kOr_true, kOr_false, tNot_at, kNot_some, tYes_at, eAnd_at, keAnd_some, keAnd2_true, keAnd2_false, eOr_at, keOr_some, keOr2_true, keOr2_false, eNot_at, keNot_some, keNot2_some, eIf_at, keIf_true, keIf_false, aNil_at, aCons_at, ka1_some, ka2_some, eTup_at, kTup_0, kTup_1, kTup_2, kTup_3, kTup_4, kTup_5, kTup_6, eLst_at, kLst_0, kLst_1, kLst_2, kLst_3, kLst_4, eDic0_at, eCall_at, kCall_some, o1_at, isiO_at, kIsi_some, tyD_non, tyD_bl, tyD_int, tyD_str, tyD_tup, eBM_at, kbm1_some, kbm2_some, eSl_at, ks2_some, ks3_some, ks4_some, oNone_at, oSome_at, kSome_int, slO_str, sSeq_at, kSeq_nx, kSeq_rt, kSeq_bk, kSeq_ct, sNext_at, sBreak_at, sCont_at, sRetN_at, sRet_at, kRet_some, sExpr_at, kExpr_some, sSet_at, kSet_some, sIf_at, kIf_true, kIf_false, sPar2_k, kPar2_some, sPar3_k, kPar3_some, sAsg_at, kAsg_some, kAsg2_some, mName_at, mTup_2, mTup_3, mCons_at, kmCons_some, mNil_at, sPut_at, kp1_some, kp2_some, kp3_some, kp4_some, kFn_rt, kFn_nx, mkFn_0, mkFn_1, mkFn_2, mkFn_3, mkFn_4, mkFn_5, sWhile_at, List.getElem?_cons_zero, List.getElem?_cons_succ, List.set_cons_zero, List.set_cons_succ, List.replicate_succ, List.replicate_zero, Nat.reduceSub, Bool.not_true, Bool.not_false, ite_true, ite_false, if_true, if_false, reduceCtorEq, cMul2, cDiv2, cMod2, gMod2, gDiv2, eq_int, e2.trans (decide_eq_true h2), hs, e3]
          simp
        · by_cases h1 : a % 2 + b % 2 = 1
          · cases o with
            | true =>
              have e3 : bit1 true (a % 2) (b % 2) = 1 := by
                unfold bit1
                rw [if_pos (.inr ⟨h1, rfl⟩)]
              simp only [uW_l_bits_2, eVar_at, kVar_some, eC_at, eBin_at, k2_some, k3_some, eUn_at, k1_some, kVal_some, kBl_some, kEq_at, kBlN_some, kNe_at, kIn_at, kNotIn_at, kIx_at, ixO_tup, kLt_int, kLe_int, kGt_int, kGe_int, kLt_str, kLe_str, kGt_str, kGe_str, kIs_non, kIs_bl, kIs_int, kIs_str, kIs_tup, kIs_ref, kIsNot_non, kIsNot_bl, kIsNot_int, kIsNot_str, kIsNot_tup, kIsNot_ref, opAdd_int, opAdd_str, opSub_int, opMul_int, opDiv_int, opMod_int, opPow_int, opAnd_int, opOr_int, opNeg_int, eChain_at, kc1_some, kc2_some, kc3_true, kc3_false, kc4_some, tOf_at, kTru_some, kTru2_some, truD_non, truD_bl, truD_int, truD_tup, tAnd_at, kAnd_true, kAnd_false, tOr_at, kOr_true, kOr_false, tNot_at, kNot_some, tYes_at, eAnd_at, keAnd_some, keAnd2_true, keAnd2_false, eOr_at, keOr_some, keOr2_true, keOr2_false, eNot_at, keNot_some, keNot2_some, eIf_at, keIf_true, keIf_false, aNil_at, aCons_at, ka1_some, ka2_some, eTup_at, kTup_0, kTup_1, kTup_2, kTup_3, kTup_4, kTup_5, kTup_6, eLst_at, kLst_0, kLst_1, kLst_2, kLst_3, kLst_4, eDic0_at, eCall_at, kCall_some, o1_at, isiO_at, kIsi_some, tyD_non, tyD_bl, tyD_int, tyD_str, tyD_tup, eBM_at, kbm1_some, kbm2_some, eSl_at, ks2_some, ks3_some, ks4_some, oNone_at, oSome_at, kSome_int, slO_str, sSeq_at, kSeq_nx, kSeq_rt, kSeq_bk, kSeq_ct, sNext_at, sBreak_at, sCont_at, sRetN_at, sRet_at, kRet_some, sExpr_at, kExpr_some, sSet_at, kSet_some, sIf_at, kIf_true, kIf_false, sPar2_k, kPar2_some, sPar3_k, kPar3_some, sAsg_at, kAsg_some, kAsg2_some, mName_at, mTup_2, mTup_3, mCons_at, kmCons_some, mNil_at, sPut_at, kp1_some, kp2_some, kp3_some, kp4_some, kFn_rt, kFn_nx, mkFn_0, mkFn_1, mkFn_2, mkFn_3, mkFn_4, mkFn_5, sWhile_at, List.getElem?_cons_zero, List.getElem?_cons_succ, List.set_cons_zero, List.set_cons_succ, List.replicate_succ, List.replicate_zero, Nat.reduceSub, Bool.not_true, Bool.not_false, ite_true, ite_false, if_true, if_false, reduceCtorEq, cMul2, cDiv2, cMod2, gMod2, gDiv2, eq_int, e2.trans (decide_eq_false h2), e1.trans (decide_eq_true h1), hs, e3]
              simp
            | false =>
              have e3 : bit1 false (a % 2) (b % 2) = 0 := by
                unfold bit1
                rw [if_neg (by rintro (z | ⟨_, z⟩); exact h2 z; cases z)]
              simp only [uW_l_bits_2, eVar_at, kVar_some, eC_at, eBin_at, k2_some, k3_some, eUn_at, k1_some, kVal_some, kBl_some, kEq_at, kBlN_some, kNe_at, kIn_at, kNotIn_at, kIx_at, ixO_tup, kLt_int, kLe_int, kGt_int, kGe_int, kLt_str, kLe_str, kGt_str, kGe_str, kIs_non, kIs_bl, kIs_int, kIs_str, kIs_tup, kIs_ref, kIsNot_non, kIsNot_bl, kIsNot_int, kIsNot_str, kIsNot_tup, kIsNot_ref, opAdd_int, opAdd_str, opSub_int, opMul_int, opDiv_int, opMod_int, opPow_int, opAnd_int, opOr_int, opNeg_int, eChain_at, kc1_some, kc2_some, kc3_true, kc3_false, kc4_some, tOf_at, kTru_some, kTru2_some, truD_non, truD_bl, truD_int, truD_tup, tAnd_at, kAnd_true, kAnd_false, tOr_at, kOr_true, kOr_false, tNot_at, kNot_some, tYes_at, eAnd_at, keAnd_some, keAnd2_true, keAnd2_false, eOr_at, keOr_some, keOr2_true, keOr2_false, eNot_at, keNot_some, keNot2_some, eIf_at, keIf_true, keIf_false, aNil_at, aCons_at, ka1_some, ka2_some, eTup_at, kTup_0, kTup_1, kTup_2, kTup_3, kTup_4, kTup_5, kTup_6, eLst_at, kLst_0, kLst_1, kLst_2, kLst_3, kLst_4, eDic0_at, eCall_at, kCall_some, o1_at, isiO_at, kIsi_some, tyD_non, tyD_bl, tyD_int, tyD_str, tyD_tup, eBM_at, kbm1_some, kbm2_some, eSl_at, ks2_some, ks3_some, ks4_some, oNone_at, oSome_at, kSome_int, slO_str, sSeq_at, kSeq_nx, kSeq_rt, kSeq_bk, kSeq_ct, sNext_at, sBreak_at, sCont_at, sRetN_at, sRet_at, kRet_some, sExpr_at, kExpr_some, sSet_at, kSet_some, sIf_at, kIf_true, kIf_false, sPar2_k, kPar2_some, sPar3_k, kPar3_some, sAsg_at, kAsg_some, kAsg2_some, mName_at, mTup_2, mTup_3, mCons_at, kmCons_some, mNil_at, sPut_at, kp1_some, kp2_some, kp3_some, kp4_some, kFn_rt, kFn_nx, mkFn_0, mkFn_1, mkFn_2, mkFn_3, mkFn_4, mkFn_5, sWhile_at, List.getElem?_cons_zero, List.getElem?_cons_succ, List.set_cons_zero, List.set_cons_succ, List.replicate_succ, List.replicate_zero, Nat.reduceSub, Bool.not_true, Bool.not_false, ite_true, ite_false, if_true, if_false, reduceCtorEq, cMul2, cDiv2, cMod2, gMod2, gDiv2, eq_int, e2.trans (decide_eq_false h2), e1.trans (decide_eq_true h1), hs, e3]
              simp
          · have e3 : bit1 o (a % 2) (b % 2) = 0 := by
              unfold bit1
              rw [if_neg (by rintro (z | ⟨z, _⟩); exact h2 z; exact h1 z)]
            simp only [uW_l_bits_2, eVar_at, kVar_some, eC_at, eBin_at, k2_some, k3_some, eUn_at, k1_some, kVal_some, kBl_some, kEq_at, kBlN_some, kNe_at, kIn_at, kNotIn_at, kIx_at, ixO_tup, kLt_int, kLe_int, kGt_int, kGe_int, kLt_str, kLe_str, kGt_str, kGe_str, kIs_non, kIs_bl, kIs_int, kIs_str, kIs_tup, kIs_ref, kIsNot_non, kIsNot_bl, kIsNot_int, kIsNot_str, kIsNot_tup, kIsNot_ref, opAdd_int, opAdd_str, opSub_int, opMul_int, opDiv_int, opMod_int, opPow_int, opAnd_int, opOr_int, opNeg_int, eChain_at, kc1_some, kc2_some, kc3_true, kc3_false, kc4_some, tOf_at, kTru_some, kTru2_some, truD_non, truD_bl, truD_int, truD_tup, tAnd_at, kAnd_true, kAnd_false, tOr_at, kOr_true, kOr_false, tNot_at, kNot_some, tYes_at, eAnd_at, keAnd_some, keAnd2_true, keAnd2_false, eOr_at, keOr_some, keOr2_true, keOr2_false, eNot_at, keNot_some, keNot2_some, eIf_at, keIf_true, keIf_false, aNil_at, aCons_at, ka1_some, ka2_some, eTup_at, kTup_0, kTup_1, kTup_2, kTup_3, kTup_4, kTup_5, kTup_6, eLst_at, kLst_0, kLst_1, kLst_2, kLst_3, kLst_4, eDic0_at, eCall_at, kCall_some, o1_at, isiO_at, kIsi_some, tyD_non, tyD_bl, tyD_int, tyD_str, tyD_tup, eBM_at, kbm1_some, kbm2_some, eSl_at, ks2_some, ks3_some, ks4_some, oNone_at, oSome_at, kSome_int, slO_str, sSeq_at, kSeq_nx, kSeq_rt, kSeq_bk, kSeq_ct, sNext_at, sBreak_at, sCont_at, sRetN_at, sRet_at, kRet_some, sExpr_at, kExpr_some, sSet_at, kSet_some, sIf_at, kIf_true, kIf_false, sPar2_k, kPar2_some, sPar3_k, kPar3_some, sAsg_at, kAsg_some, kAsg2_some, mName_at, mTup_2, mTup_3, mCons_at, kmCons_some, mNil_at, sPut_at, kp1_some, kp2_some, kp3_some, kp4_some, kFn_rt, kFn_nx, mkFn_0, mkFn_1, mkFn_2, mkFn_3, mkFn_4, mkFn_5, sWhile_at, List.getElem?_cons_zero, List.getElem?_cons_succ, List.set_cons_zero, List.set_cons_succ, List.replicate_succ, List.replicate_zero, Nat.reduceSub, Bool.not_true, Bool.not_false, ite_true, ite_false, if_true, if_false, reduceCtorEq, cMul2, cDiv2, cMod2, gMod2, gDiv2, eq_int, e2.trans (decide_eq_false h2), e1.trans (decide_eq_false h1), hs, e3]
            simp
      obtain ⟨a', b', w', q', e⟩ := ih (a / 2) (b / 2) (f + w * (bit1 o (a % 2) (b % 2) : Nat)) (w * 2) (some (.int (((a % 2 : Nat) : Int) + ((b % 2 : Nat) : Int)))) (by have := Nat.pow_succ (n := 2) (m := n); omega) (by have := Nat.pow_succ (n := 2) (m := n); omega)
      refine ⟨a', b', w', q', ?_⟩
      have e4 : f + w * (bitN o a b : Nat) = f + w * (bit1 o (a % 2) (b % 2) : Nat) + w * 2 * (bitN o (a / 2) (b / 2) : Nat) := by
        rw [bitN_step o a b]
        have : ((2 * bitN o (a / 2) (b / 2) + bit1 o (a % 2) (b % 2) : Nat) : Int) = 2 * (bitN o (a / 2) (b / 2) : Nat) + (bit1 o (a % 2) (b % 2) : Nat) := by omega
        rw [this, Int.mul_add, Int.mul_assoc]
        omega
      rw [e4, ← e]
      conv => lhs; unfold loopW
      rw [ht]
      show ((uW_l_bits_2 _ st).bind _) = _
      rw [hu]
      rfl
end Math

set_option maxRecDepth 100000
set_option maxHeartbeats 4000000
namespace Math
open MP Text PySem
theorem nat_small {i : Int} (h : W.ok (.num i)) : i.toNat < 2 ^ 100 := by
  have h3 : (2 : Nat) ^ 100 = 1267650600228229401496703205376 := by decide
  obtain ⟨h1, h2⟩ := h
  rw [h3]
  omega
theorem bits (o : Bool) (i j : Int) (st : Sto) (hi : W.ok (.num i)) (hj : W.ok (.num j)) (h0 : 0 ≤ i) (h1 : 0 ≤ j) : F_l_bits [.str (sgB o), .int i, .int j] st = some (.int (if o then Builtin.bitOr i j else Builtin.bitAnd i j), st) := by
  obtain ⟨a', b', w', q', e⟩ := bits_loop o st 100 i.toNat j.toNat 0 1 none (nat_small hi) (nat_small hj)
  rw [Int.toNat_of_nonneg h0, Int.toNat_of_nonneg h1] at e
  have e2 := loopW_more FUEL (by decide) e
  have e3 : (0 + 1 * ((bitN o i.toNat j.toNat : Nat) : Int)) = if o then Builtin.bitOr i j else Builtin.bitAnd i j := by
    cases o with
    | true =>
      rw [Bits.bitOr_pp h0 h1]
      simp [bitN]
    | false =>
      rw [PyProof.Rows.bitAnd_pp h0 h1]
      simp [bitN]
  rw [e3] at e2
  simp only [F_l_bits, b_l_bits, eVar_at, kVar_some, eC_at, eBin_at, k2_some, k3_some, eUn_at, k1_some, kVal_some, kBl_some, kEq_at, kBlN_some, kNe_at, kIn_at, kNotIn_at, kIx_at, ixO_tup, kLt_int, kLe_int, kGt_int, kGe_int, kLt_str, kLe_str, kGt_str, kGe_str, kIs_non, kIs_bl, kIs_int, kIs_str, kIs_tup, kIs_ref, kIsNot_non, kIsNot_bl, kIsNot_int, kIsNot_str, kIsNot_tup, kIsNot_ref, opAdd_int, opAdd_str, opSub_int, opMul_int, opDiv_int, opMod_int, opPow_int, opAnd_int, opOr_int, opNeg_int, eChain_at, kc1_some, kc2_some, kc3_true, kc3_false, kc4_some, tOf_at, kTru_some, kTru2_some, truD_non, truD_bl, truD_int, truD_tup, tAnd_at, kAnd_true, kAnd_false, tOr_at, kOr_true, kOr_false, tNot_at, kNot_some, tYes_at, eAnd_at, keAnd_some, keAnd2_true, keAnd2_false, eOr_at, keOr_some, keOr2_true, keOr2_false, eNot_at, keNot_some, keNot2_some, eIf_at, keIf_true, keIf_false, aNil_at, aCons_at, ka1_some, ka2_some, eTup_at, kTup_0, kTup_1, kTup_2, kTup_3, kTup_4, kTup_5, kTup_6, eLst_at, kLst_0, kLst_1, kLst_2, kLst_3, kLst_4, eDic0_at, eCall_at, kCall_some, o1_at, isiO_at, kIsi_some, tyD_non, tyD_bl, tyD_int, tyD_str, tyD_tup, eBM_at, kbm1_some, kbm2_some, eSl_at, ks2_some, ks3_some, ks4_some, oNone_at, oSome_at, kSome_int, slO_str, sSeq_at, kSeq_nx, kSeq_rt, kSeq_bk, kSeq_ct, sNext_at, sBreak_at, sCont_at, sRetN_at, sRet_at, kRet_some, sExpr_at, kExpr_some, sSet_at, kSet_some, sIf_at, kIf_true, kIf_false, sPar2_k, kPar2_some, sPar3_k, kPar3_some, sAsg_at, kAsg_some, kAsg2_some, mName_at, mTup_2, mTup_3, mCons_at, kmCons_some, mNil_at, sPut_at, kp1_some, kp2_some, kp3_some, kp4_some, kFn_rt, kFn_nx, mkFn_0, mkFn_1, mkFn_2, mkFn_3, mkFn_4, mkFn_5, sWhile_at, List.getElem?_cons_zero, List.getElem?_cons_succ, List.set_cons_zero, List.set_cons_succ, List.replicate_succ, List.replicate_zero, Nat.reduceSub, Bool.not_true, Bool.not_false, ite_true, ite_false, if_true, if_false, reduceCtorEq, e2]
theorem number (n : Int) (st : Sto) : F_l_number [.int n] st = some (numA n, st) := by
  have e : (10 : Int) ^ (30 : Int).toNat = 1000000000000000000000000000000 := by decide
  have hp : cPow 10 30 = true := by decide
  unfold numA
  by_cases h : n < 0
  · by_cases h2 : -n ≤ 1000000000000000000000000000000
    · rw [if_pos (by omega)]
      simp only [F_l_number, b_l_number, eVar_at, kVar_some, eC_at, eBin_at, k2_some, k3_some, eUn_at, k1_some, kVal_some, kBl_some, kEq_at, kBlN_some, kNe_at, kIn_at, kNotIn_at, kIx_at, ixO_tup, kLt_int, kLe_int, kGt_int, kGe_int, kLt_str, kLe_str, kGt_str, kGe_str, kIs_non, kIs_bl, kIs_int, kIs_str, kIs_tup, kIs_ref, kIsNot_non, kIsNot_bl, kIsNot_int, kIsNot_str, kIsNot_tup, kIsNot_ref, opAdd_int, opAdd_str, opSub_int, opMul_int, opDiv_int, opMod_int, opPow_int, opAnd_int, opOr_int, opNeg_int, eChain_at, kc1_some, kc2_some, kc3_true, kc3_false, kc4_some, tOf_at, kTru_some, kTru2_some, truD_non, truD_bl, truD_int, truD_tup, tAnd_at, kAnd_true, kAnd_false, tOr_at, kOr_true, kOr_false, tNot_at, kNot_some, tYes_at, eAnd_at, keAnd_some, keAnd2_true, keAnd2_false, eOr_at, keOr_some, keOr2_true, keOr2_false, eNot_at, keNot_some, keNot2_some, eIf_at, keIf_true, keIf_false, aNil_at, aCons_at, ka1_some, ka2_some, eTup_at, kTup_0, kTup_1, kTup_2, kTup_3, kTup_4, kTup_5, kTup_6, eLst_at, kLst_0, kLst_1, kLst_2, kLst_3, kLst_4, eDic0_at, eCall_at, kCall_some, o1_at, isiO_at, kIsi_some, tyD_non, tyD_bl, tyD_int, tyD_str, tyD_tup, eBM_at, kbm1_some, kbm2_some, eSl_at, ks2_some, ks3_some, ks4_some, oNone_at, oSome_at, kSome_int, slO_str, sSeq_at, kSeq_nx, kSeq_rt, kSeq_bk, kSeq_ct, sNext_at, sBreak_at, sCont_at, sRetN_at, sRet_at, kRet_some, sExpr_at, kExpr_some, sSet_at, kSet_some, sIf_at, kIf_true, kIf_false, sPar2_k, kPar2_some, sPar3_k, kPar3_some, sAsg_at, kAsg_some, kAsg2_some, mName_at, mTup_2, mTup_3, mCons_at, kmCons_some, mNil_at, sPut_at, kp1_some, kp2_some, kp3_some, kp4_some, kFn_rt, kFn_nx, mkFn_0, mkFn_1, mkFn_2, mkFn_3, mkFn_4, mkFn_5, sWhile_at, List.getElem?_cons_zero, List.getElem?_cons_succ, List.set_cons_zero, List.set_cons_succ, List.replicate_succ, List.replicate_zero, Nat.reduceSub, Bool.not_true, Bool.not_false, ite_true, ite_false, if_true, if_false, reduceCtorEq, absO, h, h2, e, hp, decide_true]
    · rw [if_neg (by omega)]
      simp only [F_l_number, b_l_number, eVar_at, kVar_some, eC_at, eBin_at, k2_some, k3_some, eUn_at, k1_some, kVal_some, kBl_some, kEq_at, kBlN_some, kNe_at, kIn_at, kNotIn_at, kIx_at, ixO_tup, kLt_int, kLe_int, kGt_int, kGe_int, kLt_str, kLe_str, kGt_str, kGe_str, kIs_non, kIs_bl, kIs_int, kIs_str, kIs_tup, kIs_ref, kIsNot_non, kIsNot_bl, kIsNot_int, kIsNot_str, kIsNot_tup, kIsNot_ref, opAdd_int, opAdd_str, opSub_int, opMul_int, opDiv_int, opMod_int, opPow_int, opAnd_int, opOr_int, opNeg_int, eChain_at, kc1_some, kc2_some, kc3_true, kc3_false, kc4_some, tOf_at, kTru_some, kTru2_some, truD_non, truD_bl, truD_int, truD_tup, tAnd_at, kAnd_true, kAnd_false, tOr_at, kOr_true, kOr_false, tNot_at, kNot_some, tYes_at, eAnd_at, keAnd_some, keAnd2_true, keAnd2_false, eOr_at, keOr_some, keOr2_true, keOr2_false, eNot_at, keNot_some, keNot2_some, eIf_at, keIf_true, keIf_false, aNil_at, aCons_at, ka1_some, ka2_some, eTup_at, kTup_0, kTup_1, kTup_2, kTup_3, kTup_4, kTup_5, kTup_6, eLst_at, kLst_0, kLst_1, kLst_2, kLst_3, kLst_4, eDic0_at, eCall_at, kCall_some, o1_at, isiO_at, kIsi_some, tyD_non, tyD_bl, tyD_int, tyD_str, tyD_tup, eBM_at, kbm1_some, kbm2_some, eSl_at, ks2_some, ks3_some, ks4_some, oNone_at, oSome_at, kSome_int, slO_str, sSeq_at, kSeq_nx, kSeq_rt, kSeq_bk, kSeq_ct, sNext_at, sBreak_at, sCont_at, sRetN_at, sRet_at, kRet_some, sExpr_at, kExpr_some, sSet_at, kSet_some, sIf_at, kIf_true, kIf_false, sPar2_k, kPar2_some, sPar3_k, kPar3_some, sAsg_at, kAsg_some, kAsg2_some, mName_at, mTup_2, mTup_3, mCons_at, kmCons_some, mNil_at, sPut_at, kp1_some, kp2_some, kp3_some, kp4_some, kFn_rt, kFn_nx, mkFn_0, mkFn_1, mkFn_2, mkFn_3, mkFn_4, mkFn_5, sWhile_at, List.getElem?_cons_zero, List.getElem?_cons_succ, List.set_cons_zero, List.set_cons_succ, List.replicate_succ, List.replicate_zero, Nat.reduceSub, Bool.not_true, Bool.not_false, ite_true, ite_false, if_true, if_false, reduceCtorEq, absO, h, h2, e, hp, decide_false]
  · by_cases h2 : n ≤ 1000000000000000000000000000000
    · rw [if_pos (by omega)]
      simp only [F_l_number, b_l_number, eVar_at, kVar_some, eC_at, eBin_at, k2_some, k3_some, eUn_at, k1_some, kVal_some, kBl_some, kEq_at, kBlN_some, kNe_at, kIn_at, kNotIn_at, kIx_at, ixO_tup, kLt_int, kLe_int, kGt_int, kGe_int, kLt_str, kLe_str, kGt_str, kGe_str, kIs_non, kIs_bl, kIs_int, kIs_str, kIs_tup, kIs_ref, kIsNot_non, kIsNot_bl, kIsNot_int, kIsNot_str, kIsNot_tup, kIsNot_ref, opAdd_int, opAdd_str, opSub_int, opMul_int, opDiv_int, opMod_int, opPow_int, opAnd_int, opOr_int, opNeg_int, eChain_at, kc1_some, kc2_some, kc3_true, kc3_false, kc4_some, tOf_at, kTru_some, kTru2_some, truD_non, truD_bl, truD_int, truD_tup, tAnd_at, kAnd_true, kAnd_false, tOr_at, kOr_true, kOr_false, tNot_at, kNot_some, tYes_at, eAnd_at, keAnd_some, keAnd2_true, keAnd2_false, eOr_at, keOr_some, keOr2_true, keOr2_false, eNot_at, keNot_some, keNot2_some, eIf_at, keIf_true, keIf_false, aNil_at, aCons_at, ka1_some, ka2_some, eTup_at, kTup_0, kTup_1, kTup_2, kTup_3, kTup_4, kTup_5, kTup_6, eLst_at, kLst_0, kLst_1, kLst_2, kLst_3, kLst_4, eDic0_at, eCall_at, kCall_some, o1_at, isiO_at, kIsi_some, tyD_non, tyD_bl, tyD_int, tyD_str, tyD_tup, eBM_at, kbm1_some, kbm2_some, eSl_at, ks2_some, ks3_some, ks4_some, oNone_at, oSome_at, kSome_int, slO_str, sSeq_at, kSeq_nx, kSeq_rt, kSeq_bk, kSeq_ct, sNext_at, sBreak_at, sCont_at, sRetN_at, sRet_at, kRet_some, sExpr_at, kExpr_some, sSet_at, kSet_some, sIf_at, kIf_true, kIf_false, sPar2_k, kPar2_some, sPar3_k, kPar3_some, sAsg_at, kAsg_some, kAsg2_some, mName_at, mTup_2, mTup_3, mCons_at, kmCons_some, mNil_at, sPut_at, kp1_some, kp2_some, kp3_some, kp4_some, kFn_rt, kFn_nx, mkFn_0, mkFn_1, mkFn_2, mkFn_3, mkFn_4, mkFn_5, sWhile_at, List.getElem?_cons_zero, List.getElem?_cons_succ, List.set_cons_zero, List.set_cons_succ, List.replicate_succ, List.replicate_zero, Nat.reduceSub, Bool.not_true, Bool.not_false, ite_true, ite_false, if_true, if_false, reduceCtorEq, absO, h, h2, e, hp, decide_true]
    · rw [if_neg (by omega)]
      simp only [F_l_number, b_l_number, eVar_at, kVar_some, eC_at, eBin_at, k2_some, k3_some, eUn_at, k1_some, kVal_some, kBl_some, kEq_at, kBlN_some, kNe_at, kIn_at, kNotIn_at, kIx_at, ixO_tup, kLt_int, kLe_int, kGt_int, kGe_int, kLt_str, kLe_str, kGt_str, kGe_str, kIs_non, kIs_bl, kIs_int, kIs_str, kIs_tup, kIs_ref, kIsNot_non, kIsNot_bl, kIsNot_int, kIsNot_str, kIsNot_tup, kIsNot_ref, opAdd_int, opAdd_str, opSub_int, opMul_int, opDiv_int, opMod_int, opPow_int, opAnd_int, opOr_int, opNeg_int, eChain_at, kc1_some, kc2_some, kc3_true, kc3_false, kc4_some, tOf_at, kTru_some, kTru2_some, truD_non, truD_bl, truD_int, truD_tup, tAnd_at, kAnd_true, kAnd_false, tOr_at, kOr_true, kOr_false, tNot_at, kNot_some, tYes_at, eAnd_at, keAnd_some, keAnd2_true, keAnd2_false, eOr_at, keOr_some, keOr2_true, keOr2_false, eNot_at, keNot_some, keNot2_some, eIf_at, keIf_true, keIf_false, aNil_at, aCons_at, ka1_some, ka2_some, eTup_at, kTup_0, kTup_1, kTup_2, kTup_3, kTup_4, kTup_5, kTup_6, eLst_at, kLst_0, kLst_1, kLst_2, kLst_3, kLst_4, eDic0_at, eCall_at, kCall_some, o1_at, isiO_at, kIsi_some, tyD_non, tyD_bl, tyD_int, tyD_str, tyD_tup, eBM_at, kbm1_some, kbm2_some, eSl_at, ks2_some, ks3_some, ks4_some, oNone_at, oSome_at, kSome_int, slO_str, sSeq_at, kSeq_nx, kSeq_rt, kSeq_bk, kSeq_ct, sNext_at, sBreak_at, sCont_at, sRetN_at, sRet_at, kRet_some, sExpr_at, kExpr_some, sSet_at, kSet_some, sIf_at, kIf_true, kIf_false, sPar2_k, kPar2_some, sPar3_k, kPar3_some, sAsg_at, kAsg_some, kAsg2_some, mName_at, mTup_2, mTup_3, mCons_at, kmCons_some, mNil_at, sPut_at, kp1_some, kp2_some, kp3_some, kp4_some, kFn_rt, kFn_nx, mkFn_0, mkFn_1, mkFn_2, mkFn_3, mkFn_4, mkFn_5, sWhile_at, List.getElem?_cons_zero, List.getElem?_cons_succ, List.set_cons_zero, List.set_cons_succ, List.replicate_succ, List.replicate_zero, Nat.reduceSub, Bool.not_true, Bool.not_false, ite_true, ite_false, if_true, if_false, reduceCtorEq, absO, h, h2, e, hp, decide_false]
theorem lnums_add (i j : Int) (st : Sto) : F_l_numbers [.str [43], .int i, .int j] st = some (numA (i + j), st) := by
  simp only [F_l_numbers, b_l_numbers, eVar_at, kVar_some, eC_at, eBin_at, k2_some, k3_some, eUn_at, k1_some, kVal_some, kBl_some, kEq_at, kBlN_some, kNe_at, kIn_at, kNotIn_at, kIx_at, ixO_tup, kLt_int, kLe_int, kGt_int, kGe_int, kLt_str, kLe_str, kGt_str, kGe_str, kIs_non, kIs_bl, kIs_int, kIs_str, kIs_tup, kIs_ref, kIsNot_non, kIsNot_bl, kIsNot_int, kIsNot_str, kIsNot_tup, kIsNot_ref, opAdd_int, opAdd_str, opSub_int, opMul_int, opDiv_int, opMod_int, opPow_int, opAnd_int, opOr_int, opNeg_int, eChain_at, kc1_some, kc2_some, kc3_true, kc3_false, kc4_some, tOf_at, kTru_some, kTru2_some, truD_non, truD_bl, truD_int, truD_tup, tAnd_at, kAnd_true, kAnd_false, tOr_at, kOr_true, kOr_false, tNot_at, kNot_some, tYes_at, eAnd_at, keAnd_some, keAnd2_true, keAnd2_false, eOr_at, keOr_some, keOr2_true, keOr2_false, eNot_at, keNot_some, keNot2_some, eIf_at, keIf_true, keIf_false, aNil_at, aCons_at, ka1_some, ka2_some, eTup_at, kTup_0, kTup_1, kTup_2, kTup_3, kTup_4, kTup_5, kTup_6, eLst_at, kLst_0, kLst_1, kLst_2, kLst_3, kLst_4, eDic0_at, eCall_at, kCall_some, o1_at, isiO_at, kIsi_some, tyD_non, tyD_bl, tyD_int, tyD_str, tyD_tup, eBM_at, kbm1_some, kbm2_some, eSl_at, ks2_some, ks3_some, ks4_some, oNone_at, oSome_at, kSome_int, slO_str, sSeq_at, kSeq_nx, kSeq_rt, kSeq_bk, kSeq_ct, sNext_at, sBreak_at, sCont_at, sRetN_at, sRet_at, kRet_some, sExpr_at, kExpr_some, sSet_at, kSet_some, sIf_at, kIf_true, kIf_false, sPar2_k, kPar2_some, sPar3_k, kPar3_some, sAsg_at, kAsg_some, kAsg2_some, mName_at, mTup_2, mTup_3, mCons_at, kmCons_some, mNil_at, sPut_at, kp1_some, kp2_some, kp3_some, kp4_some, kFn_rt, kFn_nx, mkFn_0, mkFn_1, mkFn_2, mkFn_3, mkFn_4, mkFn_5, sWhile_at, List.getElem?_cons_zero, List.getElem?_cons_succ, List.set_cons_zero, List.set_cons_succ, List.replicate_succ, List.replicate_zero, Nat.reduceSub, Bool.not_true, Bool.not_false, ite_true, ite_false, if_true, if_false, reduceCtorEq, eq_str, number, List.cons.injEq, Nat.reduceEqDiff, decide_true, decide_false, and_true, and_false, true_and, false_and]
theorem lnums_sub (i j : Int) (st : Sto) : F_l_numbers [.str [45], .int i, .int j] st = some (numA (i - j), st) := by
  simp only [F_l_numbers, b_l_numbers, eVar_at, kVar_some, eC_at, eBin_at, k2_some, k3_some, eUn_at, k1_some, kVal_some, kBl_some, kEq_at, kBlN_some, kNe_at, kIn_at, kNotIn_at, kIx_at, ixO_tup, kLt_int, kLe_int, kGt_int, kGe_int, kLt_str, kLe_str, kGt_str, kGe_str, kIs_non, kIs_bl, kIs_int, kIs_str, kIs_tup, kIs_ref, kIsNot_non, kIsNot_bl, kIsNot_int, kIsNot_str, kIsNot_tup, kIsNot_ref, opAdd_int, opAdd_str, opSub_int, opMul_int, opDiv_int, opMod_int, opPow_int, opAnd_int, opOr_int, opNeg_int, eChain_at, kc1_some, kc2_some, kc3_true, kc3_false, kc4_some, tOf_at, kTru_some, kTru2_some, truD_non, truD_bl, truD_int, truD_tup, tAnd_at, kAnd_true, kAnd_false, tOr_at, kOr_true, kOr_false, tNot_at, kNot_some, tYes_at, eAnd_at, keAnd_some, keAnd2_true, keAnd2_false, eOr_at, keOr_some, keOr2_true, keOr2_false, eNot_at, keNot_some, keNot2_some, eIf_at, keIf_true, keIf_false, aNil_at, aCons_at, ka1_some, ka2_some, eTup_at, kTup_0, kTup_1, kTup_2, kTup_3, kTup_4, kTup_5, kTup_6, eLst_at, kLst_0, kLst_1, kLst_2, kLst_3, kLst_4, eDic0_at, eCall_at, kCall_some, o1_at, isiO_at, kIsi_some, tyD_non, tyD_bl, tyD_int, tyD_str, tyD_tup, eBM_at, kbm1_some, kbm2_some, eSl_at, ks2_some, ks3_some, ks4_some, oNone_at, oSome_at, kSome_int, slO_str, sSeq_at, kSeq_nx, kSeq_rt, kSeq_bk, kSeq_ct, sNext_at, sBreak_at, sCont_at, sRetN_at, sRet_at, kRet_some, sExpr_at, kExpr_some, sSet_at, kSet_some, sIf_at, kIf_true, kIf_false, sPar2_k, kPar2_some, sPar3_k, kPar3_some, sAsg_at, kAsg_some, kAsg2_some, mName_at, mTup_2, mTup_3, mCons_at, kmCons_some, mNil_at, sPut_at, kp1_some, kp2_some, kp3_some, kp4_some, kFn_rt, kFn_nx, mkFn_0, mkFn_1, mkFn_2, mkFn_3, mkFn_4, mkFn_5, sWhile_at, List.getElem?_cons_zero, List.getElem?_cons_succ, List.set_cons_zero, List.set_cons_succ, List.replicate_succ, List.replicate_zero, Nat.reduceSub, Bool.not_true, Bool.not_false, ite_true, ite_false, if_true, if_false, reduceCtorEq, eq_str, number, List.cons.injEq, Nat.reduceEqDiff, decide_true, decide_false, and_true, and_false, true_and, false_and]
theorem lnums_mul (i j : Int) (st : Sto) (hi : W.ok (.num i)) (hj : W.ok (.num j)) : F_l_numbers [.str [42], .int i, .int j] st = some (numA (i * j), st) := by
  simp only [F_l_numbers, b_l_numbers, eVar_at, kVar_some, eC_at, eBin_at, k2_some, k3_some, eUn_at, k1_some, kVal_some, kBl_some, kEq_at, kBlN_some, kNe_at, kIn_at, kNotIn_at, kIx_at, ixO_tup, kLt_int, kLe_int, kGt_int, kGe_int, kLt_str, kLe_str, kGt_str, kGe_str, kIs_non, kIs_bl, kIs_int, kIs_str, kIs_tup, kIs_ref, kIsNot_non, kIsNot_bl, kIsNot_int, kIsNot_str, kIsNot_tup, kIsNot_ref, opAdd_int, opAdd_str, opSub_int, opMul_int, opDiv_int, opMod_int, opPow_int, opAnd_int, opOr_int, opNeg_int, eChain_at, kc1_some, kc2_some, kc3_true, kc3_false, kc4_some, tOf_at, kTru_some, kTru2_some, truD_non, truD_bl, truD_int, truD_tup, tAnd_at, kAnd_true, kAnd_false, tOr_at, kOr_true, kOr_false, tNot_at, kNot_some, tYes_at, eAnd_at, keAnd_some, keAnd2_true, keAnd2_false, eOr_at, keOr_some, keOr2_true, keOr2_false, eNot_at, keNot_some, keNot2_some, eIf_at, keIf_true, keIf_false, aNil_at, aCons_at, ka1_some, ka2_some, eTup_at, kTup_0, kTup_1, kTup_2, kTup_3, kTup_4, kTup_5, kTup_6, eLst_at, kLst_0, kLst_1, kLst_2, kLst_3, kLst_4, eDic0_at, eCall_at, kCall_some, o1_at, isiO_at, kIsi_some, tyD_non, tyD_bl, tyD_int, tyD_str, tyD_tup, eBM_at, kbm1_some, kbm2_some, eSl_at, ks2_some, ks3_some, ks4_some, oNone_at, oSome_at, kSome_int, slO_str, sSeq_at, kSeq_nx, kSeq_rt, kSeq_bk, kSeq_ct, sNext_at, sBreak_at, sCont_at, sRetN_at, sRet_at, kRet_some, sExpr_at, kExpr_some, sSet_at, kSet_some, sIf_at, kIf_true, kIf_false, sPar2_k, kPar2_some, sPar3_k, kPar3_some, sAsg_at, kAsg_some, kAsg2_some, mName_at, mTup_2, mTup_3, mCons_at, kmCons_some, mNil_at, sPut_at, kp1_some, kp2_some, kp3_some, kp4_some, kFn_rt, kFn_nx, mkFn_0, mkFn_1, mkFn_2, mkFn_3, mkFn_4, mkFn_5, sWhile_at, List.getElem?_cons_zero, List.getElem?_cons_succ, List.set_cons_zero, List.set_cons_succ, List.replicate_succ, List.replicate_zero, Nat.reduceSub, Bool.not_true, Bool.not_false, ite_true, ite_false, if_true, if_false, reduceCtorEq, eq_str, number, cMul_ok' hi hj, List.cons.injEq, Nat.reduceEqDiff, decide_true, decide_false, and_true, and_false, true_and, false_and]
theorem lnums_div (i j : Int) (st : Sto) (hi : W.ok (.num i)) (hj : W.ok (.num j)) : F_l_numbers [.str [47, 47], .int i, .int j] st = some (if j = 0 then fNought else numA (gDiv i j), st) := by
  by_cases h0 : j = 0
  · subst h0
    simp only [F_l_numbers, b_l_numbers, eVar_at, kVar_some, eC_at, eBin_at, k2_some, k3_some, eUn_at, k1_some, kVal_some, kBl_some, kEq_at, kBlN_some, kNe_at, kIn_at, kNotIn_at, kIx_at, ixO_tup, kLt_int, kLe_int, kGt_int, kGe_int, kLt_str, kLe_str, kGt_str, kGe_str, kIs_non, kIs_bl, kIs_int, kIs_str, kIs_tup, kIs_ref, kIsNot_non, kIsNot_bl, kIsNot_int, kIsNot_str, kIsNot_tup, kIsNot_ref, opAdd_int, opAdd_str, opSub_int, opMul_int, opDiv_int, opMod_int, opPow_int, opAnd_int, opOr_int, opNeg_int, eChain_at, kc1_some, kc2_some, kc3_true, kc3_false, kc4_some, tOf_at, kTru_some, kTru2_some, truD_non, truD_bl, truD_int, truD_tup, tAnd_at, kAnd_true, kAnd_false, tOr_at, kOr_true, kOr_false, tNot_at, kNot_some, tYes_at, eAnd_at, keAnd_some, keAnd2_true, keAnd2_false, eOr_at, keOr_some, keOr2_true, keOr2_false, eNot_at, keNot_some, keNot2_some, eIf_at, keIf_true, keIf_false, aNil_at, aCons_at, ka1_some, ka2_some, eTup_at, kTup_0, kTup_1, kTup_2, kTup_3, kTup_4, kTup_5, kTup_6, eLst_at, kLst_0, kLst_1, kLst_2, kLst_3, kLst_4, eDic0_at, eCall_at, kCall_some, o1_at, isiO_at, kIsi_some, tyD_non, tyD_bl, tyD_int, tyD_str, tyD_tup, eBM_at, kbm1_some, kbm2_some, eSl_at, ks2_some, ks3_some, ks4_some, oNone_at, oSome_at, kSome_int, slO_str, sSeq_at, kSeq_nx, kSeq_rt, kSeq_bk, kSeq_ct, sNext_at, sBreak_at, sCont_at, sRetN_at, sRet_at, kRet_some, sExpr_at, kExpr_some, sSet_at, kSet_some, sIf_at, kIf_true, kIf_false, sPar2_k, kPar2_some, sPar3_k, kPar3_some, sAsg_at, kAsg_some, kAsg2_some, mName_at, mTup_2, mTup_3, mCons_at, kmCons_some, mNil_at, sPut_at, kp1_some, kp2_some, kp3_some, kp4_some, kFn_rt, kFn_nx, mkFn_0, mkFn_1, mkFn_2, mkFn_3, mkFn_4, mkFn_5, sWhile_at, List.getElem?_cons_zero, List.getElem?_cons_succ, List.set_cons_zero, List.set_cons_succ, List.replicate_succ, List.replicate_zero, Nat.reduceSub, Bool.not_true, Bool.not_false, ite_true, ite_false, if_true, if_false, reduceCtorEq, eq_str, eq_int, number, List.cons.injEq, Nat.reduceEqDiff, decide_true, decide_false, and_true, and_false, true_and, false_and, beq_self_eq_true]
  · rw [if_neg h0]
    have e : (j == 0) = false := beq_eq_false_iff_ne.mpr h0
    simp only [F_l_numbers, b_l_numbers, eVar_at, kVar_some, eC_at, eBin_at, k2_some, k3_some, eUn_at, k1_some, kVal_some, kBl_some, kEq_at, kBlN_some, kNe_at, kIn_at, kNotIn_at, kIx_at, ixO_tup, kLt_int, kLe_int, kGt_int, kGe_int, kLt_str, kLe_str, kGt_str, kGe_str, kIs_non, kIs_bl, kIs_int, kIs_str, kIs_tup, kIs_ref, kIsNot_non, kIsNot_bl, kIsNot_int, kIsNot_str, kIsNot_tup, kIsNot_ref, opAdd_int, opAdd_str, opSub_int, opMul_int, opDiv_int, opMod_int, opPow_int, opAnd_int, opOr_int, opNeg_int, eChain_at, kc1_some, kc2_some, kc3_true, kc3_false, kc4_some, tOf_at, kTru_some, kTru2_some, truD_non, truD_bl, truD_int, truD_tup, tAnd_at, kAnd_true, kAnd_false, tOr_at, kOr_true, kOr_false, tNot_at, kNot_some, tYes_at, eAnd_at, keAnd_some, keAnd2_true, keAnd2_false, eOr_at, keOr_some, keOr2_true, keOr2_false, eNot_at, keNot_some, keNot2_some, eIf_at, keIf_true, keIf_false, aNil_at, aCons_at, ka1_some, ka2_some, eTup_at, kTup_0, kTup_1, kTup_2, kTup_3, kTup_4, kTup_5, kTup_6, eLst_at, kLst_0, kLst_1, kLst_2, kLst_3, kLst_4, eDic0_at, eCall_at, kCall_some, o1_at, isiO_at, kIsi_some, tyD_non, tyD_bl, tyD_int, tyD_str, tyD_tup, eBM_at, kbm1_some, kbm2_some, eSl_at, ks2_some, ks3_some, ks4_some, oNone_at, oSome_at, kSome_int, slO_str, sSeq_at, kSeq_nx, kSeq_rt, kSeq_bk, kSeq_ct, sNext_at, sBreak_at, sCont_at, sRetN_at, sRet_at, kRet_some, sExpr_at, kExpr_some, sSet_at, kSet_some, sIf_at, kIf_true, kIf_false, sPar2_k, kPar2_some, sPar3_k, kPar3_some, sAsg_at, kAsg_some, kAsg2_some, mName_at, mTup_2, mTup_3, mCons_at, kmCons_some, mNil_at, sPut_at, kp1_some, kp2_some, kp3_some, kp4_some, kFn_rt, kFn_nx, mkFn_0, mkFn_1, mkFn_2, mkFn_3, mkFn_4, mkFn_5, sWhile_at, List.getElem?_cons_zero, List.getElem?_cons_succ, List.set_cons_zero, List.set_cons_succ, List.replicate_succ, List.replicate_zero, Nat.reduceSub, Bool.not_true, Bool.not_false, ite_true, ite_false, if_true, if_false, reduceCtorEq, eq_str, eq_int, number, divided i j st hi hj h0, e, List.cons.injEq, Nat.reduceEqDiff, decide_true, decide_false, and_true, and_false, true_and, false_and]
theorem lnums_and (i j : Int) (st : Sto) (hi : W.ok (.num i)) (hj : W.ok (.num j)) : F_l_numbers [.str [38], .int i, .int j] st = some (bitA Builtin.bitAnd i j, st) := by
  unfold bitA
  by_cases h : i < 0
  · rw [if_pos (.inl h)]
    simp only [F_l_numbers, b_l_numbers, eVar_at, kVar_some, eC_at, eBin_at, k2_some, k3_some, eUn_at, k1_some, kVal_some, kBl_some, kEq_at, kBlN_some, kNe_at, kIn_at, kNotIn_at, kIx_at, ixO_tup, kLt_int, kLe_int, kGt_int, kGe_int, kLt_str, kLe_str, kGt_str, kGe_str, kIs_non, kIs_bl, kIs_int, kIs_str, kIs_tup, kIs_ref, kIsNot_non, kIsNot_bl, kIsNot_int, kIsNot_str, kIsNot_tup, kIsNot_ref, opAdd_int, opAdd_str, opSub_int, opMul_int, opDiv_int, opMod_int, opPow_int, opAnd_int, opOr_int, opNeg_int, eChain_at, kc1_some, kc2_some, kc3_true, kc3_false, kc4_some, tOf_at, kTru_some, kTru2_some, truD_non, truD_bl, truD_int, truD_tup, tAnd_at, kAnd_true, kAnd_false, tOr_at, kOr_true, kOr_false, tNot_at, kNot_some, tYes_at, eAnd_at, keAnd_some, keAnd2_true, keAnd2_false, eOr_at, keOr_some, keOr2_true, keOr2_false, eNot_at, keNot_some, keNot2_some, eIf_at, keIf_true, keIf_false, aNil_at, aCons_at, ka1_some, ka2_some, eTup_at, kTup_0, kTup_1, kTup_2, kTup_3, kTup_4, kTup_5, kTup_6, eLst_at, kLst_0, kLst_1, kLst_2, kLst_3, kLst_4, eDic0_at, eCall_at, kCall_some, o1_at, isiO_at, kIsi_some, tyD_non, tyD_bl, tyD_int, tyD_str, tyD_tup, eBM_at, kbm1_some, kbm2_some, eSl_at, ks2_some, ks3_some, ks4_some, oNone_at, oSome_at, kSome_int, slO_str, sSeq_at, kSeq_nx, kSeq_rt, kSeq_bk, kSeq_ct, sNext_at, sBreak_at, sCont_at, sRetN_at, sRet_at, kRet_some, sExpr_at, kExpr_some, sSet_at, kSet_some, sIf_at, kIf_true, kIf_false, sPar2_k, kPar2_some, sPar3_k, kPar3_some, sAsg_at, kAsg_some, kAsg2_some, mName_at, mTup_2, mTup_3, mCons_at, kmCons_some, mNil_at, sPut_at, kp1_some, kp2_some, kp3_some, kp4_some, kFn_rt, kFn_nx, mkFn_0, mkFn_1, mkFn_2, mkFn_3, mkFn_4, mkFn_5, sWhile_at, List.getElem?_cons_zero, List.getElem?_cons_succ, List.set_cons_zero, List.set_cons_succ, List.replicate_succ, List.replicate_zero, Nat.reduceSub, Bool.not_true, Bool.not_false, ite_true, ite_false, if_true, if_false, reduceCtorEq, eq_str, h, List.cons.injEq, Nat.reduceEqDiff, decide_true, decide_false, and_true, and_false, true_and, false_and]
  · by_cases h2 : j < 0
    · rw [if_pos (.inr h2)]
      simp only [F_l_numbers, b_l_numbers, eVar_at, kVar_some, eC_at, eBin_at, k2_some, k3_some, eUn_at, k1_some, kVal_some, kBl_some, kEq_at, kBlN_some, kNe_at, kIn_at, kNotIn_at, kIx_at, ixO_tup, kLt_int, kLe_int, kGt_int, kGe_int, kLt_str, kLe_str, kGt_str, kGe_str, kIs_non, kIs_bl, kIs_int, kIs_str, kIs_tup, kIs_ref, kIsNot_non, kIsNot_bl, kIsNot_int, kIsNot_str, kIsNot_tup, kIsNot_ref, opAdd_int, opAdd_str, opSub_int, opMul_int, opDiv_int, opMod_int, opPow_int, opAnd_int, opOr_int, opNeg_int, eChain_at, kc1_some, kc2_some, kc3_true, kc3_false, kc4_some, tOf_at, kTru_some, kTru2_some, truD_non, truD_bl, truD_int, truD_tup, tAnd_at, kAnd_true, kAnd_false, tOr_at, kOr_true, kOr_false, tNot_at, kNot_some, tYes_at, eAnd_at, keAnd_some, keAnd2_true, keAnd2_false, eOr_at, keOr_some, keOr2_true, keOr2_false, eNot_at, keNot_some, keNot2_some, eIf_at, keIf_true, keIf_false, aNil_at, aCons_at, ka1_some, ka2_some, eTup_at, kTup_0, kTup_1, kTup_2, kTup_3, kTup_4, kTup_5, kTup_6, eLst_at, kLst_0, kLst_1, kLst_2, kLst_3, kLst_4, eDic0_at, eCall_at, kCall_some, o1_at, isiO_at, kIsi_some, tyD_non, tyD_bl, tyD_int, tyD_str, tyD_tup, eBM_at, kbm1_some, kbm2_some, eSl_at, ks2_some, ks3_some, ks4_some, oNone_at, oSome_at, kSome_int, slO_str, sSeq_at, kSeq_nx, kSeq_rt, kSeq_bk, kSeq_ct, sNext_at, sBreak_at, sCont_at, sRetN_at, sRet_at, kRet_some, sExpr_at, kExpr_some, sSet_at, kSet_some, sIf_at, kIf_true, kIf_false, sPar2_k, kPar2_some, sPar3_k, kPar3_some, sAsg_at, kAsg_some, kAsg2_some, mName_at, mTup_2, mTup_3, mCons_at, kmCons_some, mNil_at, sPut_at, kp1_some, kp2_some, kp3_some, kp4_some, kFn_rt, kFn_nx, mkFn_0, mkFn_1, mkFn_2, mkFn_3, mkFn_4, mkFn_5, sWhile_at, List.getElem?_cons_zero, List.getElem?_cons_succ, List.set_cons_zero, List.set_cons_succ, List.replicate_succ, List.replicate_zero, Nat.reduceSub, Bool.not_true, Bool.not_false, ite_true, ite_false, if_true, if_false, reduceCtorEq, eq_str, h, h2, List.cons.injEq, Nat.reduceEqDiff, decide_true, decide_false, and_true, and_false, true_and, false_and]
    · rw [if_neg (by omega)]
      have e : F_l_bits [.str [38], .int i, .int j] st = some (.int (Builtin.bitAnd i j), st) := bits false i j st hi hj (by omega) (by omega)
      simp only [F_l_numbers, b_l_numbers, eVar_at, kVar_some, eC_at, eBin_at, k2_some, k3_some, eUn_at, k1_some, kVal_some, kBl_some, kEq_at, kBlN_some, kNe_at, kIn_at, kNotIn_at, kIx_at, ixO_tup, kLt_int, kLe_int, kGt_int, kGe_int, kLt_str, kLe_str, kGt_str, kGe_str, kIs_non, kIs_bl, kIs_int, kIs_str, kIs_tup, kIs_ref, kIsNot_non, kIsNot_bl, kIsNot_int, kIsNot_str, kIsNot_tup, kIsNot_ref, opAdd_int, opAdd_str, opSub_int, opMul_int, opDiv_int, opMod_int, opPow_int, opAnd_int, opOr_int, opNeg_int, eChain_at, kc1_some, kc2_some, kc3_true, kc3_false, kc4_some, tOf_at, kTru_some, kTru2_some, truD_non, truD_bl, truD_int, truD_tup, tAnd_at, kAnd_true, kAnd_false, tOr_at, kOr_true, kOr_false, tNot_at, kNot_some, tYes_at, eAnd_at, keAnd_some, keAnd2_true, keAnd2_false, eOr_at, keOr_some, keOr2_true, keOr2_false, eNot_at, keNot_some, keNot2_some, eIf_at, keIf_true, keIf_false, aNil_at, aCons_at, ka1_some, ka2_some, eTup_at, kTup_0, kTup_1, kTup_2, kTup_3, kTup_4, kTup_5, kTup_6, eLst_at, kLst_0, kLst_1, kLst_2, kLst_3, kLst_4, eDic0_at, eCall_at, kCall_some, o1_at, isiO_at, kIsi_some, tyD_non, tyD_bl, tyD_int, tyD_str, tyD_tup, eBM_at, kbm1_some, kbm2_some, eSl_at, ks2_some, ks3_some, ks4_some, oNone_at, oSome_at, kSome_int, slO_str, sSeq_at, kSeq_nx, kSeq_rt, kSeq_bk, kSeq_ct, sNext_at, sBreak_at, sCont_at, sRetN_at, sRet_at, kRet_some, sExpr_at, kExpr_some, sSet_at, kSet_some, sIf_at, kIf_true, kIf_false, sPar2_k, kPar2_some, sPar3_k, kPar3_some, sAsg_at, kAsg_some, kAsg2_some, mName_at, mTup_2, mTup_3, mCons_at, kmCons_some, mNil_at, sPut_at, kp1_some, kp2_some, kp3_some, kp4_some, kFn_rt, kFn_nx, mkFn_0, mkFn_1, mkFn_2, mkFn_3, mkFn_4, mkFn_5, sWhile_at, List.getElem?_cons_zero, List.getElem?_cons_succ, List.set_cons_zero, List.set_cons_succ, List.replicate_succ, List.replicate_zero, Nat.reduceSub, Bool.not_true, Bool.not_false, ite_true, ite_false, if_true, if_false, reduceCtorEq, eq_str, number, e, h, h2, List.cons.injEq, Nat.reduceEqDiff, decide_true, decide_false, and_true, and_false, true_and, false_and]
theorem lnums_or (i j : Int) (st : Sto) (hi : W.ok (.num i)) (hj : W.ok (.num j)) : F_l_numbers [.str [124], .int i, .int j] st = some (bitA Builtin.bitOr i j, st) := by
  unfold bitA
  by_cases h : i < 0
  · rw [if_pos (.inl h)]
    simp only [F_l_numbers, b_l_numbers, eVar_at, kVar_some, eC_at, eBin_at, k2_some, k3_some, eUn_at, k1_some, kVal_some, kBl_some, kEq_at, kBlN_some, kNe_at, kIn_at, kNotIn_at, kIx_at, ixO_tup, kLt_int, kLe_int, kGt_int, kGe_int, kLt_str, kLe_str, kGt_str, kGe_str, kIs_non, kIs_bl, kIs_int, kIs_str, kIs_tup, kIs_ref, kIsNot_non, kIsNot_bl, kIsNot_int, kIsNot_str, kIsNot_tup, kIsNot_ref, opAdd_int, opAdd_str, opSub_int, opMul_int, opDiv_int, opMod_int, opPow_int, opAnd_int, opOr_int, opNeg_int, eChain_at, kc1_some, kc2_some, kc3_true, kc3_false, kc4_some, tOf_at, kTru_some, kTru2_some, truD_non, truD_bl, truD_int, truD_tup, tAnd_at, kAnd_true, kAnd_false, tOr_at, kOr_true, kOr_false, tNot_at, kNot_some, tYes_at, eAnd_at, keAnd_some, keAnd2_true, keAnd2_false, eOr_at, keOr_some, keOr2_true, keOr2_false, eNot_at, keNot_some, keNot2_some, eIf_at, keIf_true, keIf_false, aNil_at, aCons_at, ka1_some, ka2_some, eTup_at, kTup_0, kTup_1, kTup_2, kTup_3, kTup_4, kTup_5, kTup_6, eLst_at, kLst_0, kLst_1, kLst_2, kLst_3, kLst_4, eDic0_at, eCall_at, kCall_some, o1_at, isiO_at, kIsi_some, tyD_non, tyD_bl, tyD_int, tyD_str, tyD_tup, eBM_at, kbm1_some, kbm2_some, eSl_at, ks2_some, ks3_some, ks4_some, oNone_at, oSome_at, kSome_int, slO_str, sSeq_at, kSeq_nx, kSeq_rt, kSeq_bk, kSeq_ct, sNext_at, sBreak_at, sCont_at, sRetN_at, sRet_at, kRet_some, sExpr_at, kExpr_some, sSet_at, kSet_some, sIf_at, kIf_true, kIf_false, sPar2_k, kPar2_some, sPar3_k, kPar3_some, sAsg_at, kAsg_some, kAsg2_some, mName_at, mTup_2, mTup_3, mCons_at, kmCons_some, mNil_at, sPut_at, kp1_some, kp2_some, kp3_some, kp4_some, kFn_rt, kFn_nx, mkFn_0, mkFn_1, mkFn_2, mkFn_3, mkFn_4, mkFn_5, sWhile_at, List.getElem?_cons_zero, List.getElem?_cons_succ, List.set_cons_zero, List.set_cons_succ, List.replicate_succ, List.replicate_zero, Nat.reduceSub, Bool.not_true, Bool.not_false, ite_true, ite_false, if_true, if_false, reduceCtorEq, eq_str, h, List.cons.injEq, Nat.reduceEqDiff, decide_true, decide_false, and_true, and_false, true_and, false_and]
  · by_cases h2 : j < 0
    · rw [if_pos (.inr h2)]
      simp only [F_l_numbers, b_l_numbers, eVar_at, kVar_some, eC_at, eBin_at, k2_some, k3_some, eUn_at, k1_some, kVal_some, kBl_some, kEq_at, kBlN_some, kNe_at, kIn_at, kNotIn_at, kIx_at, ixO_tup, kLt_int, kLe_int, kGt_int, kGe_int, kLt_str, kLe_str, kGt_str, kGe_str, kIs_non, kIs_bl, kIs_int, kIs_str, kIs_tup, kIs_ref, kIsNot_non, kIsNot_bl, kIsNot_int, kIsNot_str, kIsNot_tup, kIsNot_ref, opAdd_int, opAdd_str, opSub_int, opMul_int, opDiv_int, opMod_int, opPow_int, opAnd_int, opOr_int, opNeg_int, eChain_at, kc1_some, kc2_some, kc3_true, kc3_false, kc4_some, tOf_at, kTru_some, kTru2_some, truD_non, truD_bl, truD_int, truD_tup, tAnd_at, kAnd_true, kAnd_false, tOr_at, kOr_true, kOr_false, tNot_at, kNot_some, tYes_at, eAnd_at, keAnd_some, keAnd2_true, keAnd2_false, eOr_at, keOr_some, keOr2_true, keOr2_false, eNot_at, keNot_some, keNot2_some, eIf_at, keIf_true, keIf_false, aNil_at, aCons_at, ka1_some, ka2_some, eTup_at, kTup_0, kTup_1, kTup_2, kTup_3, kTup_4, kTup_5, kTup_6, eLst_at, kLst_0, kLst_1, kLst_2, kLst_3, kLst_4, eDic0_at, eCall_at, kCall_some, o1_at, isiO_at, kIsi_some, tyD_non, tyD_bl, tyD_int, tyD_str, tyD_tup, eBM_at, kbm1_some, kbm2_some, eSl_at, ks2_some, ks3_some, ks4_some, oNone_at, oSome_at, kSome_int, slO_str, sSeq_at, kSeq_nx, kSeq_rt, kSeq_bk, kSeq_ct, sNext_at, sBreak_at, sCont_at, sRetN_at, sRet_at, kRet_some, sExpr_at, kExpr_some, sSet_at, kSet_some, sIf_at, kIf_true, kIf_false, sPar2_k, kPar2_some, sPar3_k, kPar3_some, sAsg_at, kAsg_some, kAsg2_some, mName_at, mTup_2, mTup_3, mCons_at, kmCons_some, mNil_at, sPut_at, kp1_some, kp2_some, kp3_some, kp4_some, kFn_rt, kFn_nx, mkFn_0, mkFn_1, mkFn_2, mkFn_3, mkFn_4, mkFn_5, sWhile_at, List.getElem?_cons_zero, List.getElem?_cons_succ, List.set_cons_zero, List.set_cons_succ, List.replicate_succ, List.replicate_zero, Nat.reduceSub, Bool.not_true, Bool.not_false, ite_true, ite_false, if_true, if_false, reduceCtorEq, eq_str, h, h2, List.cons.injEq, Nat.reduceEqDiff, decide_true, decide_false, and_true, and_false, true_and, false_and]
    · rw [if_neg (by omega)]
      have e : F_l_bits [.str [124], .int i, .int j] st = some (.int (Builtin.bitOr i j), st) := bits true i j st hi hj (by omega) (by omega)
      simp only [F_l_numbers, b_l_numbers, eVar_at, kVar_some, eC_at, eBin_at, k2_some, k3_some, eUn_at, k1_some, kVal_some, kBl_some, kEq_at, kBlN_some, kNe_at, kIn_at, kNotIn_at, kIx_at, ixO_tup, kLt_int, kLe_int, kGt_int, kGe_int, kLt_str, kLe_str, kGt_str, kGe_str, kIs_non, kIs_bl, kIs_int, kIs_str, kIs_tup, kIs_ref, kIsNot_non, kIsNot_bl, kIsNot_int, kIsNot_str, kIsNot_tup, kIsNot_ref, opAdd_int, opAdd_str, opSub_int, opMul_int, opDiv_int, opMod_int, opPow_int, opAnd_int, opOr_int, opNeg_int, eChain_at, kc1_some, kc2_some, kc3_true, kc3_false, kc4_some, tOf_at, kTru_some, kTru2_some, truD_non, truD_bl, truD_int, truD_tup, tAnd_at, kAnd_true, kAnd_false, tOr_at, kOr_true, kOr_false, tNot_at, kNot_some, tYes_at, eAnd_at, keAnd_some, keAnd2_true, keAnd2_false, eOr_at, keOr_some, keOr2_true, keOr2_false, eNot_at, keNot_some, keNot2_some, eIf_at, keIf_true, keIf_false, aNil_at, aCons_at, ka1_some, ka2_some, eTup_at, kTup_0, kTup_1, kTup_2, kTup_3, kTup_4, kTup_5, kTup_6, eLst_at, kLst_0, kLst_1, kLst_2, kLst_3, kLst_4, eDic0_at, eCall_at, kCall_some, o1_at, isiO_at, kIsi_some, tyD_non, tyD_bl, tyD_int, tyD_str, tyD_tup, eBM_at, kbm1_some, kbm2_some, eSl_at, ks2_some, ks3_some, ks4_some, oNone_at, oSome_at, kSome_int, slO_str, sSeq_at, kSeq_nx, kSeq_rt, kSeq_bk, kSeq_ct, sNext_at, sBreak_at, sCont_at, sRetN_at, sRet_at, kRet_some, sExpr_at, kExpr_some, sSet_at, kSet_some, sIf_at, kIf_true, kIf_false, sPar2_k, kPar2_some, sPar3_k, kPar3_some, sAsg_at, kAsg_some, kAsg2_some, mName_at, mTup_2, mTup_3, mCons_at, kmCons_some, mNil_at, sPut_at, kp1_some, kp2_some, kp3_some, kp4_some, kFn_rt, kFn_nx, mkFn_0, mkFn_1, mkFn_2, mkFn_3, mkFn_4, mkFn_5, sWhile_at, List.getElem?_cons_zero, List.getElem?_cons_succ, List.set_cons_zero, List.set_cons_succ, List.replicate_succ, List.replicate_zero, Nat.reduceSub, Bool.not_true, Bool.not_false, ite_true, ite_false, if_true, if_false, reduceCtorEq, eq_str, number, e, h, h2, List.cons.injEq, Nat.reduceEqDiff, decide_true, decide_false, and_true, and_false, true_and, false_and]
end Math

set_option maxRecDepth 100000
set_option maxHeartbeats 4000000
namespace Math
open MP Text PySem
theorem eq_num (st : Sto) (i j : Int) : eqO st (.tup [.str [110, 117, 109, 98, 101, 114], .int i]) (.tup [.str [110, 117, 109, 98, 101, 114], .int j]) = some (i == j) := eq_alike st (.num i) (.num j)
theorem eq_txt (st : Sto) (i j : List Nat) : eqO st (.tup [.str [116, 101, 120, 116], .str i]) (.tup [.str [116, 101, 120, 116], .str j]) = some (decide (i = j)) := eq_alike st (.txt i) (.txt j)
theorem eq_tru (st : Sto) (i j : Bool) : eqO st (.tup [.str [116, 114, 117, 116, 104], .bl i]) (.tup [.str [116, 114, 117, 116, 104], .bl j]) = some (i == j) := eq_alike st (.tru i) (.tru j)
theorem eq_non (st : Sto) : eqO st (.tup [.str [110, 111, 110, 101]]) (.tup [.str [110, 111, 110, 101]]) = some true := eq_alike st .non .non
theorem eq_thing (st : Sto) (i j : Int) : eqO st (.tup [.str [116, 104, 105, 110, 103], .int i]) (.tup [.str [116, 104, 105, 110, 103], .int j]) = some (i == j) := eq_alike st (.thing i) (.thing j)
theorem eq_pair (st : Sto) (a b c d : List Nat) : eqO st (.tup [.str a, .str b]) (.tup [.str c, .str d]) = some (decide (a = c) && decide (b = d)) := by
  simp [eqO, DEEP, toP, mapO, PyData.eqv, PyData.eqvAll, mkS_beq]
theorem in_pairs (st : Sto) (a b c d e f : List Nat) : inO st (.tup [.str a, .str b]) (.tup [.tup [.str c, .str d], .tup [.str e, .str f]]) = some ((decide (c = a) && decide (d = b)) || (decide (e = a) && decide (f = b))) := by
  simp [inO, inD, DEEP, toP, mapO, PyData.eqv, PyData.eqvAll, mkS_beq]
theorem in2 (st : Sto) (l : List Nat) : inO st (.str l) (.tup [.str [38], .str [124]]) = some (decide ([38] = l) || decide ([124] = l)) := by
  have := in_strs st l [[38], [124]]
  simpa using this
abbrev tellD (less alk : Bool) : List (Sum Int Str × D) := [(.inr (mkS [60]), .bl less), (.inr (mkS [60, 61]), .bl (less || alk)), (.inr (mkS [62]), .bl (!less && !alk)), (.inr (mkS [62, 61]), .bl (!less))]
theorem merge4 (a b c d : D) : mergeD ([] : List (Sum Int Str × D)) [(.inr (mkS [60]), a), (.inr (mkS [60, 61]), b), (.inr (mkS [62]), c), (.inr (mkS [62, 61]), d)] = [(.inr (mkS [60]), a), (.inr (mkS [60, 61]), b), (.inr (mkS [62]), c), (.inr (mkS [62, 61]), d)] := by
  rfl
theorem disp_due (a b c : Option D) (d e : Option D) (less alk : Bool) (f : Option D) (st : Sto) :
    eDisp (psCons (eC (.str [60])) (eVar 6) (psCons (eC (.str [60, 61])) (eOr (eVar 6) (eVar 3)) (psCons (eC (.str [62])) (eAnd (eNot (eVar 6)) (eNot (eVar 3))) (psCons (eC (.str [62, 61])) (eNot (eVar 6)) psNil)))) [a, b, c, some (.bl alk), d, e, some (.bl less), f] st
      = some (.ref st.length, st ++ [.dic (tellD less alk)]) := by
  have h1 : myD (st ++ [Ob.dic []]) st.length = some [] := by
    unfold myD
    simp
  have h2 : (st ++ [Ob.dic []]).set st.length (.dic (tellD less alk)) = st ++ [.dic (tellD less alk)] := by
    simp
  cases less <;> cases alk <;> simp only [eDisp, psCons, psNil, eVar_at, kVar_some, eC_at, eBin_at, k2_some, k3_some, eUn_at, k1_some, kVal_some, kBl_some, kEq_at, kBlN_some, kNe_at, kIn_at, kNotIn_at, kIx_at, ixO_tup, kLt_int, kLe_int, kGt_int, kGe_int, kLt_str, kLe_str, kGt_str, kGe_str, kIs_non, kIs_bl, kIs_int, kIs_str, kIs_tup, kIs_ref, kIsNot_non, kIsNot_bl, kIsNot_int, kIsNot_str, kIsNot_tup, kIsNot_ref, opAdd_int, opAdd_str, opSub_int, opMul_int, opDiv_int, opMod_int, opPow_int, opAnd_int, opOr_int, opNeg_int, eChain_at, kc1_some, kc2_some, kc3_true, kc3_false, kc4_some, tOf_at, kTru_some, kTru2_some, truD_non, truD_bl, truD_int, truD_tup, tAnd_at, kAnd_true, kAnd_false, tOr_at, kOr_true, kOr_false, tNot_at, kNot_some, tYes_at, eAnd_at, keAnd_some, keAnd2_true, keAnd2_false, eOr_at, keOr_some, keOr2_true, keOr2_false, eNot_at, keNot_some, keNot2_some, eIf_at, keIf_true, keIf_false, aNil_at, aCons_at, ka1_some, ka2_some, eTup_at, kTup_0, kTup_1, kTup_2, kTup_3, kTup_4, kTup_5, kTup_6, eLst_at, kLst_0, kLst_1, kLst_2, kLst_3, kLst_4, eDic0_at, eCall_at, kCall_some, o1_at, isiO_at, kIsi_some, tyD_non, tyD_bl, tyD_int, tyD_str, tyD_tup, eBM_at, kbm1_some, kbm2_some, eSl_at, ks2_some, ks3_some, ks4_some, oNone_at, oSome_at, kSome_int, slO_str, sSeq_at, kSeq_nx, kSeq_rt, kSeq_bk, kSeq_ct, sNext_at, sBreak_at, sCont_at, sRetN_at, sRet_at, kRet_some, sExpr_at, kExpr_some, sSet_at, kSet_some, sIf_at, kIf_true, kIf_false, sPar2_k, kPar2_some, sPar3_k, kPar3_some, sAsg_at, kAsg_some, kAsg2_some, mName_at, mTup_2, mTup_3, mCons_at, kmCons_some, mNil_at, sPut_at, kp1_some, kp2_some, kp3_some, kp4_some, kFn_rt, kFn_nx, mkFn_0, mkFn_1, mkFn_2, mkFn_3, mkFn_4, mkFn_5, sWhile_at, List.getElem?_cons_zero, List.getElem?_cons_succ, List.set_cons_zero, List.set_cons_succ, List.replicate_succ, List.replicate_zero, Nat.reduceSub, Bool.not_true, Bool.not_false, ite_true, ite_false, if_true, if_false, reduceCtorEq, Option.bind_some, Option.map_some, keysO, keyOf, h1, merge4, List.length_cons, List.length_nil, Nat.reduceAdd, Nat.reduceLeDiff] <;> exact congrArg (fun z => some (D.ref st.length, z)) h2
theorem ix_due (st : Sto) (s : List Nat) (kvs : List (Sum Int Str × D)) : ixO (.ref st.length) (.str s) (st ++ [.dic kvs]) = valD kvs (.inr (mkS s)) := by
  have h1 : myD (st ++ [.dic kvs]) st.length = some kvs := by
    unfold myD
    simp
  have h2 : rdL (st ++ [.dic kvs]) st.length = none := by
    unfold rdL
    simp
  simp only [ixO, h1, h2, keyOf]
theorem val_lt (l a : Bool) : valD (tellD l a) (.inr (mkS [60])) = some (.bl l) := rfl
theorem val_le (l a : Bool) : valD (tellD l a) (.inr (mkS [60, 61])) = some (.bl (l || a)) := rfl
theorem val_gt (l a : Bool) : valD (tellD l a) (.inr (mkS [62])) = some (.bl (!l && !a)) := rfl
theorem val_ge (l a : Bool) : valD (tellD l a) (.inr (mkS [62, 61])) = some (.bl (!l)) := rfl
theorem le_int (i j : Int) : (decide (i < j) || (i == j)) = decide (i ≤ j) := by
  by_cases h : i < j
  · simp [h]; omega
  · by_cases e : i = j
    · subst e; simp
    · have : ¬ i ≤ j := by omega
      simp [h, e, this]
theorem gt_int (i j : Int) : (!decide (i < j) && !(i == j)) = decide (j < i) := by
  by_cases h : i < j
  · have : ¬ j < i := by omega
    simp [h, this]
  · by_cases e : i = j
    · subst e; simp
    · have : j < i := by omega
      simp [h, e, this]
theorem ge_int (i j : Int) : (!decide (i < j)) = decide (j ≤ i) := by
  by_cases h : i < j
  · have : ¬ j ≤ i := by omega
    simp [h, this]
  · have : j ≤ i := by omega
    simp [h, this]
theorem le_str (i j : List Nat) : (decide (i < j) || decide (i = j)) = !decide (j < i) := by
  by_cases h : i < j
  · have : ¬ j < i := List.lt_asymm h
    simp [h, this]
  · by_cases e : i = j
    · subst e; simp [List.lt_irrefl]
    · have : j < i := by
        exact Std.lt_of_le_of_ne h (id (Ne.symm e))
      simp [h, e, this]
theorem gt_str (i j : List Nat) : (!decide (i < j) && !decide (i = j)) = decide (j < i) := by
  have := le_str i j
  rw [← Bool.not_or, this, Bool.not_not]

theorem due_diff (s ka kb : List Nat) (ra rb : List D) (st : Sto) (h : ka ≠ kb) (h1 : s ≠ [61, 61]) (h2 : s ≠ [33, 61]) : F_l_due [.str s, .tup (.str ka :: ra), .tup (.str kb :: rb)] st = some (fKind, st ++ []) := by
  have e1 : ∀ k : List Nat, (decide (ka = k) && decide (kb = k)) = false := fun k => by
    by_cases z : ka = k
    · have : ¬ kb = k := fun w => h (z.trans w.symm)
      simp [this]
    · simp [z]
  have e2 : ∀ k : List Nat, (decide (k = ka) && decide (k = kb)) = false := fun k => by
    by_cases z : k = ka
    · have : ¬ k = kb := fun w => h (z.symm.trans w)
      simp [this]
    · simp [z]
  simp only [F_l_due, b_l_due, eVar_at, kVar_some, eC_at, eBin_at, k2_some, k3_some, eUn_at, k1_some, kVal_some, kBl_some, kEq_at, kBlN_some, kNe_at, kIn_at, kNotIn_at, kIx_at, ixO_tup, kLt_int, kLe_int, kGt_int, kGe_int, kLt_str, kLe_str, kGt_str, kGe_str, kIs_non, kIs_bl, kIs_int, kIs_str, kIs_tup, kIs_ref, kIsNot_non, kIsNot_bl, kIsNot_int, kIsNot_str, kIsNot_tup, kIsNot_ref, opAdd_int, opAdd_str, opSub_int, opMul_int, opDiv_int, opMod_int, opPow_int, opAnd_int, opOr_int, opNeg_int, eChain_at, kc1_some, kc2_some, kc3_true, kc3_false, kc4_some, tOf_at, kTru_some, kTru2_some, truD_non, truD_bl, truD_int, truD_tup, tAnd_at, kAnd_true, kAnd_false, tOr_at, kOr_true, kOr_false, tNot_at, kNot_some, tYes_at, eAnd_at, keAnd_some, keAnd2_true, keAnd2_false, eOr_at, keOr_some, keOr2_true, keOr2_false, eNot_at, keNot_some, keNot2_some, eIf_at, keIf_true, keIf_false, aNil_at, aCons_at, ka1_some, ka2_some, eTup_at, kTup_0, kTup_1, kTup_2, kTup_3, kTup_4, kTup_5, kTup_6, eLst_at, kLst_0, kLst_1, kLst_2, kLst_3, kLst_4, eDic0_at, eCall_at, kCall_some, o1_at, isiO_at, kIsi_some, tyD_non, tyD_bl, tyD_int, tyD_str, tyD_tup, eBM_at, kbm1_some, kbm2_some, eSl_at, ks2_some, ks3_some, ks4_some, oNone_at, oSome_at, kSome_int, slO_str, sSeq_at, kSeq_nx, kSeq_rt, kSeq_bk, kSeq_ct, sNext_at, sBreak_at, sCont_at, sRetN_at, sRet_at, kRet_some, sExpr_at, kExpr_some, sSet_at, kSet_some, sIf_at, kIf_true, kIf_false, sPar2_k, kPar2_some, sPar3_k, kPar3_some, sAsg_at, kAsg_some, kAsg2_some, mName_at, mTup_2, mTup_3, mCons_at, kmCons_some, mNil_at, sPut_at, kp1_some, kp2_some, kp3_some, kp4_some, kFn_rt, kFn_nx, mkFn_0, mkFn_1, mkFn_2, mkFn_3, mkFn_4, mkFn_5, sWhile_at, List.getElem?_cons_zero, List.getElem?_cons_succ, List.set_cons_zero, List.set_cons_succ, List.replicate_succ, List.replicate_zero, Nat.reduceSub, Bool.not_true, Bool.not_false, ite_true, ite_false, if_true, if_false, reduceCtorEq, eq_str, eq_num, eq_txt, eq_tru, eq_non, eq_thing, eq_pair, in_pairs, in2, in4, atI0, atI1, e1, e2, h, h1, h2, List.cons.injEq, Nat.reduceEqDiff, decide_false, decide_true, and_false, and_true, false_and, true_and, Bool.or_false, Bool.or_true, Bool.true_or, Bool.false_or, Bool.and_true, Bool.and_false, Bool.false_and, Bool.true_and, List.append_nil]
theorem due_non (s : List Nat) (st : Sto) (h1 : s ≠ [61, 61]) (h2 : s ≠ [33, 61]) : F_l_due [.str s, .tup [.str [110, 111, 110, 101]], .tup [.str [110, 111, 110, 101]]] st = some (fKind, st ++ []) := by
  simp only [F_l_due, b_l_due, eVar_at, kVar_some, eC_at, eBin_at, k2_some, k3_some, eUn_at, k1_some, kVal_some, kBl_some, kEq_at, kBlN_some, kNe_at, kIn_at, kNotIn_at, kIx_at, ixO_tup, kLt_int, kLe_int, kGt_int, kGe_int, kLt_str, kLe_str, kGt_str, kGe_str, kIs_non, kIs_bl, kIs_int, kIs_str, kIs_tup, kIs_ref, kIsNot_non, kIsNot_bl, kIsNot_int, kIsNot_str, kIsNot_tup, kIsNot_ref, opAdd_int, opAdd_str, opSub_int, opMul_int, opDiv_int, opMod_int, opPow_int, opAnd_int, opOr_int, opNeg_int, eChain_at, kc1_some, kc2_some, kc3_true, kc3_false, kc4_some, tOf_at, kTru_some, kTru2_some, truD_non, truD_bl, truD_int, truD_tup, tAnd_at, kAnd_true, kAnd_false, tOr_at, kOr_true, kOr_false, tNot_at, kNot_some, tYes_at, eAnd_at, keAnd_some, keAnd2_true, keAnd2_false, eOr_at, keOr_some, keOr2_true, keOr2_false, eNot_at, keNot_some, keNot2_some, eIf_at, keIf_true, keIf_false, aNil_at, aCons_at, ka1_some, ka2_some, eTup_at, kTup_0, kTup_1, kTup_2, kTup_3, kTup_4, kTup_5, kTup_6, eLst_at, kLst_0, kLst_1, kLst_2, kLst_3, kLst_4, eDic0_at, eCall_at, kCall_some, o1_at, isiO_at, kIsi_some, tyD_non, tyD_bl, tyD_int, tyD_str, tyD_tup, eBM_at, kbm1_some, kbm2_some, eSl_at, ks2_some, ks3_some, ks4_some, oNone_at, oSome_at, kSome_int, slO_str, sSeq_at, kSeq_nx, kSeq_rt, kSeq_bk, kSeq_ct, sNext_at, sBreak_at, sCont_at, sRetN_at, sRet_at, kRet_some, sExpr_at, kExpr_some, sSet_at, kSet_some, sIf_at, kIf_true, kIf_false, sPar2_k, kPar2_some, sPar3_k, kPar3_some, sAsg_at, kAsg_some, kAsg2_some, mName_at, mTup_2, mTup_3, mCons_at, kmCons_some, mNil_at, sPut_at, kp1_some, kp2_some, kp3_some, kp4_some, kFn_rt, kFn_nx, mkFn_0, mkFn_1, mkFn_2, mkFn_3, mkFn_4, mkFn_5, sWhile_at, List.getElem?_cons_zero, List.getElem?_cons_succ, List.set_cons_zero, List.set_cons_succ, List.replicate_succ, List.replicate_zero, Nat.reduceSub, Bool.not_true, Bool.not_false, ite_true, ite_false, if_true, if_false, reduceCtorEq, eq_str, eq_num, eq_txt, eq_tru, eq_non, eq_thing, eq_pair, in_pairs, in2, in4, atI0, atI1, h1, h2, List.cons.injEq, Nat.reduceEqDiff, decide_false, decide_true, and_false, and_true, false_and, true_and, Bool.or_false, Bool.or_true, Bool.true_or, Bool.false_or, Bool.and_true, Bool.and_false, Bool.false_and, Bool.true_and, List.append_nil]
theorem due_thing (s : List Nat) (i j : Int) (st : Sto) (h1 : s ≠ [61, 61]) (h2 : s ≠ [33, 61]) : F_l_due [.str s, .tup [.str [116, 104, 105, 110, 103], .int i], .tup [.str [116, 104, 105, 110, 103], .int j]] st = some (fKind, st ++ []) := by
  simp only [F_l_due, b_l_due, eVar_at, kVar_some, eC_at, eBin_at, k2_some, k3_some, eUn_at, k1_some, kVal_some, kBl_some, kEq_at, kBlN_some, kNe_at, kIn_at, kNotIn_at, kIx_at, ixO_tup, kLt_int, kLe_int, kGt_int, kGe_int, kLt_str, kLe_str, kGt_str, kGe_str, kIs_non, kIs_bl, kIs_int, kIs_str, kIs_tup, kIs_ref, kIsNot_non, kIsNot_bl, kIsNot_int, kIsNot_str, kIsNot_tup, kIsNot_ref, opAdd_int, opAdd_str, opSub_int, opMul_int, opDiv_int, opMod_int, opPow_int, opAnd_int, opOr_int, opNeg_int, eChain_at, kc1_some, kc2_some, kc3_true, kc3_false, kc4_some, tOf_at, kTru_some, kTru2_some, truD_non, truD_bl, truD_int, truD_tup, tAnd_at, kAnd_true, kAnd_false, tOr_at, kOr_true, kOr_false, tNot_at, kNot_some, tYes_at, eAnd_at, keAnd_some, keAnd2_true, keAnd2_false, eOr_at, keOr_some, keOr2_true, keOr2_false, eNot_at, keNot_some, keNot2_some, eIf_at, keIf_true, keIf_false, aNil_at, aCons_at, ka1_some, ka2_some, eTup_at, kTup_0, kTup_1, kTup_2, kTup_3, kTup_4, kTup_5, kTup_6, eLst_at, kLst_0, kLst_1, kLst_2, kLst_3, kLst_4, eDic0_at, eCall_at, kCall_some, o1_at, isiO_at, kIsi_some, tyD_non, tyD_bl, tyD_int, tyD_str, tyD_tup, eBM_at, kbm1_some, kbm2_some, eSl_at, ks2_some, ks3_some, ks4_some, oNone_at, oSome_at, kSome_int, slO_str, sSeq_at, kSeq_nx, kSeq_rt, kSeq_bk, kSeq_ct, sNext_at, sBreak_at, sCont_at, sRetN_at, sRet_at, kRet_some, sExpr_at, kExpr_some, sSet_at, kSet_some, sIf_at, kIf_true, kIf_false, sPar2_k, kPar2_some, sPar3_k, kPar3_some, sAsg_at, kAsg_some, kAsg2_some, mName_at, mTup_2, mTup_3, mCons_at, kmCons_some, mNil_at, sPut_at, kp1_some, kp2_some, kp3_some, kp4_some, kFn_rt, kFn_nx, mkFn_0, mkFn_1, mkFn_2, mkFn_3, mkFn_4, mkFn_5, sWhile_at, List.getElem?_cons_zero, List.getElem?_cons_succ, List.set_cons_zero, List.set_cons_succ, List.replicate_succ, List.replicate_zero, Nat.reduceSub, Bool.not_true, Bool.not_false, ite_true, ite_false, if_true, if_false, reduceCtorEq, eq_str, eq_num, eq_txt, eq_tru, eq_non, eq_thing, eq_pair, in_pairs, in2, in4, atI0, atI1, h1, h2, List.cons.injEq, Nat.reduceEqDiff, decide_false, decide_true, and_false, and_true, false_and, true_and, Bool.or_false, Bool.or_true, Bool.true_or, Bool.false_or, Bool.and_true, Bool.and_false, Bool.false_and, Bool.true_and, List.append_nil]
theorem due_tru (s : List Nat) (i j : Bool) (st : Sto) (h1 : s ≠ [61, 61]) (h2 : s ≠ [33, 61]) (h3 : ¬ [38] = s) (h4 : ¬ [124] = s) : F_l_due [.str s, .tup [.str [116, 114, 117, 116, 104], .bl i], .tup [.str [116, 114, 117, 116, 104], .bl j]] st = some (fKind, st ++ []) := by
  simp only [F_l_due, b_l_due, eVar_at, kVar_some, eC_at, eBin_at, k2_some, k3_some, eUn_at, k1_some, kVal_some, kBl_some, kEq_at, kBlN_some, kNe_at, kIn_at, kNotIn_at, kIx_at, ixO_tup, kLt_int, kLe_int, kGt_int, kGe_int, kLt_str, kLe_str, kGt_str, kGe_str, kIs_non, kIs_bl, kIs_int, kIs_str, kIs_tup, kIs_ref, kIsNot_non, kIsNot_bl, kIsNot_int, kIsNot_str, kIsNot_tup, kIsNot_ref, opAdd_int, opAdd_str, opSub_int, opMul_int, opDiv_int, opMod_int, opPow_int, opAnd_int, opOr_int, opNeg_int, eChain_at, kc1_some, kc2_some, kc3_true, kc3_false, kc4_some, tOf_at, kTru_some, kTru2_some, truD_non, truD_bl, truD_int, truD_tup, tAnd_at, kAnd_true, kAnd_false, tOr_at, kOr_true, kOr_false, tNot_at, kNot_some, tYes_at, eAnd_at, keAnd_some, keAnd2_true, keAnd2_false, eOr_at, keOr_some, keOr2_true, keOr2_false, eNot_at, keNot_some, keNot2_some, eIf_at, keIf_true, keIf_false, aNil_at, aCons_at, ka1_some, ka2_some, eTup_at, kTup_0, kTup_1, kTup_2, kTup_3, kTup_4, kTup_5, kTup_6, eLst_at, kLst_0, kLst_1, kLst_2, kLst_3, kLst_4, eDic0_at, eCall_at, kCall_some, o1_at, isiO_at, kIsi_some, tyD_non, tyD_bl, tyD_int, tyD_str, tyD_tup, eBM_at, kbm1_some, kbm2_some, eSl_at, ks2_some, ks3_some, ks4_some, oNone_at, oSome_at, kSome_int, slO_str, sSeq_at, kSeq_nx, kSeq_rt, kSeq_bk, kSeq_ct, sNext_at, sBreak_at, sCont_at, sRetN_at, sRet_at, kRet_some, sExpr_at, kExpr_some, sSet_at, kSet_some, sIf_at, kIf_true, kIf_false, sPar2_k, kPar2_some, sPar3_k, kPar3_some, sAsg_at, kAsg_some, kAsg2_some, mName_at, mTup_2, mTup_3, mCons_at, kmCons_some, mNil_at, sPut_at, kp1_some, kp2_some, kp3_some, kp4_some, kFn_rt, kFn_nx, mkFn_0, mkFn_1, mkFn_2, mkFn_3, mkFn_4, mkFn_5, sWhile_at, List.getElem?_cons_zero, List.getElem?_cons_succ, List.set_cons_zero, List.set_cons_succ, List.replicate_succ, List.replicate_zero, Nat.reduceSub, Bool.not_true, Bool.not_false, ite_true, ite_false, if_true, if_false, reduceCtorEq, eq_str, eq_num, eq_txt, eq_tru, eq_non, eq_thing, eq_pair, in_pairs, in2, in4, atI0, atI1, h1, h2, h3, h4, List.cons.injEq, Nat.reduceEqDiff, decide_false, decide_true, and_false, and_true, false_and, true_and, Bool.or_false, Bool.or_true, Bool.true_or, Bool.false_or, Bool.and_true, Bool.and_false, Bool.false_and, Bool.true_and, List.append_nil]
theorem due_txt (s : List Nat) (i j : List Nat) (st : Sto) (h1 : s ≠ [61, 61]) (h2 : s ≠ [33, 61]) (h3 : ¬ [60] = s) (h4 : ¬ [60, 61] = s) (h5 : ¬ [62] = s) (h6 : ¬ [62, 61] = s) (h7 : s ≠ [43]) : F_l_due [.str s, .tup [.str [116, 101, 120, 116], .str i], .tup [.str [116, 101, 120, 116], .str j]] st = some (fKind, st ++ []) := by
  simp only [F_l_due, b_l_due, eVar_at, kVar_some, eC_at, eBin_at, k2_some, k3_some, eUn_at, k1_some, kVal_some, kBl_some, kEq_at, kBlN_some, kNe_at, kIn_at, kNotIn_at, kIx_at, ixO_tup, kLt_int, kLe_int, kGt_int, kGe_int, kLt_str, kLe_str, kGt_str, kGe_str, kIs_non, kIs_bl, kIs_int, kIs_str, kIs_tup, kIs_ref, kIsNot_non, kIsNot_bl, kIsNot_int, kIsNot_str, kIsNot_tup, kIsNot_ref, opAdd_int, opAdd_str, opSub_int, opMul_int, opDiv_int, opMod_int, opPow_int, opAnd_int, opOr_int, opNeg_int, eChain_at, kc1_some, kc2_some, kc3_true, kc3_false, kc4_some, tOf_at, kTru_some, kTru2_some, truD_non, truD_bl, truD_int, truD_tup, tAnd_at, kAnd_true, kAnd_false, tOr_at, kOr_true, kOr_false, tNot_at, kNot_some, tYes_at, eAnd_at, keAnd_some, keAnd2_true, keAnd2_false, eOr_at, keOr_some, keOr2_true, keOr2_false, eNot_at, keNot_some, keNot2_some, eIf_at, keIf_true, keIf_false, aNil_at, aCons_at, ka1_some, ka2_some, eTup_at, kTup_0, kTup_1, kTup_2, kTup_3, kTup_4, kTup_5, kTup_6, eLst_at, kLst_0, kLst_1, kLst_2, kLst_3, kLst_4, eDic0_at, eCall_at, kCall_some, o1_at, isiO_at, kIsi_some, tyD_non, tyD_bl, tyD_int, tyD_str, tyD_tup, eBM_at, kbm1_some, kbm2_some, eSl_at, ks2_some, ks3_some, ks4_some, oNone_at, oSome_at, kSome_int, slO_str, sSeq_at, kSeq_nx, kSeq_rt, kSeq_bk, kSeq_ct, sNext_at, sBreak_at, sCont_at, sRetN_at, sRet_at, kRet_some, sExpr_at, kExpr_some, sSet_at, kSet_some, sIf_at, kIf_true, kIf_false, sPar2_k, kPar2_some, sPar3_k, kPar3_some, sAsg_at, kAsg_some, kAsg2_some, mName_at, mTup_2, mTup_3, mCons_at, kmCons_some, mNil_at, sPut_at, kp1_some, kp2_some, kp3_some, kp4_some, kFn_rt, kFn_nx, mkFn_0, mkFn_1, mkFn_2, mkFn_3, mkFn_4, mkFn_5, sWhile_at, List.getElem?_cons_zero, List.getElem?_cons_succ, List.set_cons_zero, List.set_cons_succ, List.replicate_succ, List.replicate_zero, Nat.reduceSub, Bool.not_true, Bool.not_false, ite_true, ite_false, if_true, if_false, reduceCtorEq, eq_str, eq_num, eq_txt, eq_tru, eq_non, eq_thing, eq_pair, in_pairs, in2, in4, atI0, atI1, h1, h2, h3, h4, h5, h6, h7, List.cons.injEq, Nat.reduceEqDiff, decide_false, decide_true, and_false, and_true, false_and, true_and, Bool.or_false, Bool.or_true, Bool.true_or, Bool.false_or, Bool.and_true, Bool.and_false, Bool.false_and, Bool.true_and, List.append_nil]
theorem due_cat (i j : List Nat) (st : Sto) (hi : i.length ≤ 1000) (hj : j.length ≤ 1000) : F_l_due [.str [43], .tup [.str [116, 101, 120, 116], .str i], .tup [.str [116, 101, 120, 116], .str j]] st = some (if 200 < i.length + j.length then fGreat else vS (i ++ j), st ++ []) := by
  have h3 : i.length + j.length ≤ LIM := by
    unfold LIM
    omega
  have h4 : (i ++ j).length ≤ LIM := by
    rw [List.length_append]
    exact h3
  have hlen : o1 lenO [.str (i ++ j)] st = some (.int ((i ++ j).length : Int), st) := by
    simp only [o1_at, lenO, h4, eVar_at, kVar_some, eC_at, eBin_at, k2_some, k3_some, eUn_at, k1_some, kVal_some, kBl_some, kEq_at, kBlN_some, kNe_at, kIn_at, kNotIn_at, kIx_at, ixO_tup, kLt_int, kLe_int, kGt_int, kGe_int, kLt_str, kLe_str, kGt_str, kGe_str, kIs_non, kIs_bl, kIs_int, kIs_str, kIs_tup, kIs_ref, kIsNot_non, kIsNot_bl, kIsNot_int, kIsNot_str, kIsNot_tup, kIsNot_ref, opAdd_int, opAdd_str, opSub_int, opMul_int, opDiv_int, opMod_int, opPow_int, opAnd_int, opOr_int, opNeg_int, eChain_at, kc1_some, kc2_some, kc3_true, kc3_false, kc4_some, tOf_at, kTru_some, kTru2_some, truD_non, truD_bl, truD_int, truD_tup, tAnd_at, kAnd_true, kAnd_false, tOr_at, kOr_true, kOr_false, tNot_at, kNot_some, tYes_at, eAnd_at, keAnd_some, keAnd2_true, keAnd2_false, eOr_at, keOr_some, keOr2_true, keOr2_false, eNot_at, keNot_some, keNot2_some, eIf_at, keIf_true, keIf_false, aNil_at, aCons_at, ka1_some, ka2_some, eTup_at, kTup_0, kTup_1, kTup_2, kTup_3, kTup_4, kTup_5, kTup_6, eLst_at, kLst_0, kLst_1, kLst_2, kLst_3, kLst_4, eDic0_at, eCall_at, kCall_some, o1_at, isiO_at, kIsi_some, tyD_non, tyD_bl, tyD_int, tyD_str, tyD_tup, eBM_at, kbm1_some, kbm2_some, eSl_at, ks2_some, ks3_some, ks4_some, oNone_at, oSome_at, kSome_int, slO_str, sSeq_at, kSeq_nx, kSeq_rt, kSeq_bk, kSeq_ct, sNext_at, sBreak_at, sCont_at, sRetN_at, sRet_at, kRet_some, sExpr_at, kExpr_some, sSet_at, kSet_some, sIf_at, kIf_true, kIf_false, sPar2_k, kPar2_some, sPar3_k, kPar3_some, sAsg_at, kAsg_some, kAsg2_some, mName_at, mTup_2, mTup_3, mCons_at, kmCons_some, mNil_at, sPut_at, kp1_some, kp2_some, kp3_some, kp4_some, kFn_rt, kFn_nx, mkFn_0, mkFn_1, mkFn_2, mkFn_3, mkFn_4, mkFn_5, sWhile_at, List.getElem?_cons_zero, List.getElem?_cons_succ, List.set_cons_zero, List.set_cons_succ, List.replicate_succ, List.replicate_zero, Nat.reduceSub, Bool.not_true, Bool.not_false, ite_true, ite_false, if_true, if_false, reduceCtorEq]
  by_cases h : ((i ++ j).length : Int) < 201
  · rw [if_neg (by rw [List.length_append] at h; omega)]
    simp only [F_l_due, b_l_due, eVar_at, kVar_some, eC_at, eBin_at, k2_some, k3_some, eUn_at, k1_some, kVal_some, kBl_some, kEq_at, kBlN_some, kNe_at, kIn_at, kNotIn_at, kIx_at, ixO_tup, kLt_int, kLe_int, kGt_int, kGe_int, kLt_str, kLe_str, kGt_str, kGe_str, kIs_non, kIs_bl, kIs_int, kIs_str, kIs_tup, kIs_ref, kIsNot_non, kIsNot_bl, kIsNot_int, kIsNot_str, kIsNot_tup, kIsNot_ref, opAdd_int, opAdd_str, opSub_int, opMul_int, opDiv_int, opMod_int, opPow_int, opAnd_int, opOr_int, opNeg_int, eChain_at, kc1_some, kc2_some, kc3_true, kc3_false, kc4_some, tOf_at, kTru_some, kTru2_some, truD_non, truD_bl, truD_int, truD_tup, tAnd_at, kAnd_true, kAnd_false, tOr_at, kOr_true, kOr_false, tNot_at, kNot_some, tYes_at, eAnd_at, keAnd_some, keAnd2_true, keAnd2_false, eOr_at, keOr_some, keOr2_true, keOr2_false, eNot_at, keNot_some, keNot2_some, eIf_at, keIf_true, keIf_false, aNil_at, aCons_at, ka1_some, ka2_some, eTup_at, kTup_0, kTup_1, kTup_2, kTup_3, kTup_4, kTup_5, kTup_6, eLst_at, kLst_0, kLst_1, kLst_2, kLst_3, kLst_4, eDic0_at, eCall_at, kCall_some, o1_at, isiO_at, kIsi_some, tyD_non, tyD_bl, tyD_int, tyD_str, tyD_tup, eBM_at, kbm1_some, kbm2_some, eSl_at, ks2_some, ks3_some, ks4_some, oNone_at, oSome_at, kSome_int, slO_str, sSeq_at, kSeq_nx, kSeq_rt, kSeq_bk, kSeq_ct, sNext_at, sBreak_at, sCont_at, sRetN_at, sRet_at, kRet_some, sExpr_at, kExpr_some, sSet_at, kSet_some, sIf_at, kIf_true, kIf_false, sPar2_k, kPar2_some, sPar3_k, kPar3_some, sAsg_at, kAsg_some, kAsg2_some, mName_at, mTup_2, mTup_3, mCons_at, kmCons_some, mNil_at, sPut_at, kp1_some, kp2_some, kp3_some, kp4_some, kFn_rt, kFn_nx, mkFn_0, mkFn_1, mkFn_2, mkFn_3, mkFn_4, mkFn_5, sWhile_at, List.getElem?_cons_zero, List.getElem?_cons_succ, List.set_cons_zero, List.set_cons_succ, List.replicate_succ, List.replicate_zero, Nat.reduceSub, Bool.not_true, Bool.not_false, ite_true, ite_false, if_true, if_false, reduceCtorEq, eq_str, eq_txt, eq_pair, in_pairs, in2, in4, atI0, atI1, h3, lenO, h4, h, List.cons.injEq, Nat.reduceEqDiff, decide_false, decide_true, and_false, and_true, false_and, true_and, Bool.or_false, Bool.or_true, Bool.true_or, Bool.false_or, Bool.and_true, Bool.and_false, Bool.false_and, Bool.true_and, List.append_nil]
  · rw [if_pos (by rw [List.length_append] at h; omega)]
    simp only [F_l_due, b_l_due, eVar_at, kVar_some, eC_at, eBin_at, k2_some, k3_some, eUn_at, k1_some, kVal_some, kBl_some, kEq_at, kBlN_some, kNe_at, kIn_at, kNotIn_at, kIx_at, ixO_tup, kLt_int, kLe_int, kGt_int, kGe_int, kLt_str, kLe_str, kGt_str, kGe_str, kIs_non, kIs_bl, kIs_int, kIs_str, kIs_tup, kIs_ref, kIsNot_non, kIsNot_bl, kIsNot_int, kIsNot_str, kIsNot_tup, kIsNot_ref, opAdd_int, opAdd_str, opSub_int, opMul_int, opDiv_int, opMod_int, opPow_int, opAnd_int, opOr_int, opNeg_int, eChain_at, kc1_some, kc2_some, kc3_true, kc3_false, kc4_some, tOf_at, kTru_some, kTru2_some, truD_non, truD_bl, truD_int, truD_tup, tAnd_at, kAnd_true, kAnd_false, tOr_at, kOr_true, kOr_false, tNot_at, kNot_some, tYes_at, eAnd_at, keAnd_some, keAnd2_true, keAnd2_false, eOr_at, keOr_some, keOr2_true, keOr2_false, eNot_at, keNot_some, keNot2_some, eIf_at, keIf_true, keIf_false, aNil_at, aCons_at, ka1_some, ka2_some, eTup_at, kTup_0, kTup_1, kTup_2, kTup_3, kTup_4, kTup_5, kTup_6, eLst_at, kLst_0, kLst_1, kLst_2, kLst_3, kLst_4, eDic0_at, eCall_at, kCall_some, o1_at, isiO_at, kIsi_some, tyD_non, tyD_bl, tyD_int, tyD_str, tyD_tup, eBM_at, kbm1_some, kbm2_some, eSl_at, ks2_some, ks3_some, ks4_some, oNone_at, oSome_at, kSome_int, slO_str, sSeq_at, kSeq_nx, kSeq_rt, kSeq_bk, kSeq_ct, sNext_at, sBreak_at, sCont_at, sRetN_at, sRet_at, kRet_some, sExpr_at, kExpr_some, sSet_at, kSet_some, sIf_at, kIf_true, kIf_false, sPar2_k, kPar2_some, sPar3_k, kPar3_some, sAsg_at, kAsg_some, kAsg2_some, mName_at, mTup_2, mTup_3, mCons_at, kmCons_some, mNil_at, sPut_at, kp1_some, kp2_some, kp3_some, kp4_some, kFn_rt, kFn_nx, mkFn_0, mkFn_1, mkFn_2, mkFn_3, mkFn_4, mkFn_5, sWhile_at, List.getElem?_cons_zero, List.getElem?_cons_succ, List.set_cons_zero, List.set_cons_succ, List.replicate_succ, List.replicate_zero, Nat.reduceSub, Bool.not_true, Bool.not_false, ite_true, ite_false, if_true, if_false, reduceCtorEq, eq_str, eq_txt, eq_pair, in_pairs, in2, in4, atI0, atI1, h3, lenO, h4, h, List.cons.injEq, Nat.reduceEqDiff, decide_false, decide_true, and_false, and_true, false_and, true_and, Bool.or_false, Bool.or_true, Bool.true_or, Bool.false_or, Bool.and_true, Bool.and_false, Bool.false_and, Bool.true_and, List.append_nil]

theorem due_add (a b : W) (st : Sto) (ha : a.ok) (hb : b.ok) : ∃ g, F_l_due [.str [43], a.d, b.d] st = some (zAdd.of a b, st ++ g) := by
  cases a <;> cases b
  · rename_i x y
    exact ⟨[], by simp only [F_l_due, b_l_due, eVar_at, kVar_some, eC_at, eBin_at, k2_some, k3_some, eUn_at, k1_some, kVal_some, kBl_some, kEq_at, kBlN_some, kNe_at, kIn_at, kNotIn_at, kIx_at, ixO_tup, kLt_int, kLe_int, kGt_int, kGe_int, kLt_str, kLe_str, kGt_str, kGe_str, kIs_non, kIs_bl, kIs_int, kIs_str, kIs_tup, kIs_ref, kIsNot_non, kIsNot_bl, kIsNot_int, kIsNot_str, kIsNot_tup, kIsNot_ref, opAdd_int, opAdd_str, opSub_int, opMul_int, opDiv_int, opMod_int, opPow_int, opAnd_int, opOr_int, opNeg_int, eChain_at, kc1_some, kc2_some, kc3_true, kc3_false, kc4_some, tOf_at, kTru_some, kTru2_some, truD_non, truD_bl, truD_int, truD_tup, tAnd_at, kAnd_true, kAnd_false, tOr_at, kOr_true, kOr_false, tNot_at, kNot_some, tYes_at, eAnd_at, keAnd_some, keAnd2_true, keAnd2_false, eOr_at, keOr_some, keOr2_true, keOr2_false, eNot_at, keNot_some, keNot2_some, eIf_at, keIf_true, keIf_false, aNil_at, aCons_at, ka1_some, ka2_some, eTup_at, kTup_0, kTup_1, kTup_2, kTup_3, kTup_4, kTup_5, kTup_6, eLst_at, kLst_0, kLst_1, kLst_2, kLst_3, kLst_4, eDic0_at, eCall_at, kCall_some, o1_at, isiO_at, kIsi_some, tyD_non, tyD_bl, tyD_int, tyD_str, tyD_tup, eBM_at, kbm1_some, kbm2_some, eSl_at, ks2_some, ks3_some, ks4_some, oNone_at, oSome_at, kSome_int, slO_str, sSeq_at, kSeq_nx, kSeq_rt, kSeq_bk, kSeq_ct, sNext_at, sBreak_at, sCont_at, sRetN_at, sRet_at, kRet_some, sExpr_at, kExpr_some, sSet_at, kSet_some, sIf_at, kIf_true, kIf_false, sPar2_k, kPar2_some, sPar3_k, kPar3_some, sAsg_at, kAsg_some, kAsg2_some, mName_at, mTup_2, mTup_3, mCons_at, kmCons_some, mNil_at, sPut_at, kp1_some, kp2_some, kp3_some, kp4_some, kFn_rt, kFn_nx, mkFn_0, mkFn_1, mkFn_2, mkFn_3, mkFn_4, mkFn_5, sWhile_at, List.getElem?_cons_zero, List.getElem?_cons_succ, List.set_cons_zero, List.set_cons_succ, List.replicate_succ, List.replicate_zero, Nat.reduceSub, Bool.not_true, Bool.not_false, ite_true, ite_false, if_true, if_false, reduceCtorEq, eq_str, eq_num, eq_txt, eq_tru, eq_non, eq_thing, eq_pair, in_pairs, in2, in4, atI0, atI1, Sgn.of, zAdd, lnums_add, List.cons.injEq, Nat.reduceEqDiff, decide_false, decide_true, and_false, and_true, false_and, true_and, Bool.or_false, Bool.or_true, Bool.true_or, Bool.false_or, Bool.and_true, Bool.and_false, Bool.false_and, Bool.true_and, List.append_nil]⟩
  · exact ⟨[], due_diff _ _ _ _ _ _ (by decide) (by decide) (by decide)⟩
  · exact ⟨[], due_diff _ _ _ _ _ _ (by decide) (by decide) (by decide)⟩
  · exact ⟨[], due_diff _ _ _ _ _ _ (by decide) (by decide) (by decide)⟩
  · exact ⟨[], due_diff _ _ _ _ _ _ (by decide) (by decide) (by decide)⟩
  · exact ⟨[], due_diff _ _ _ _ _ _ (by decide) (by decide) (by decide)⟩
  · exact ⟨[], due_cat _ _ _ ha hb⟩
  · exact ⟨[], due_diff _ _ _ _ _ _ (by decide) (by decide) (by decide)⟩
  · exact ⟨[], due_diff _ _ _ _ _ _ (by decide) (by decide) (by decide)⟩
  · exact ⟨[], due_diff _ _ _ _ _ _ (by decide) (by decide) (by decide)⟩
  · exact ⟨[], due_diff _ _ _ _ _ _ (by decide) (by decide) (by decide)⟩
  · exact ⟨[], due_diff _ _ _ _ _ _ (by decide) (by decide) (by decide)⟩
  · exact ⟨[], due_tru _ _ _ _ (by decide) (by decide) (by decide) (by decide)⟩
  · exact ⟨[], due_diff _ _ _ _ _ _ (by decide) (by decide) (by decide)⟩
  · exact ⟨[], due_diff _ _ _ _ _ _ (by decide) (by decide) (by decide)⟩
  · exact ⟨[], due_diff _ _ _ _ _ _ (by decide) (by decide) (by decide)⟩
  · exact ⟨[], due_diff _ _ _ _ _ _ (by decide) (by decide) (by decide)⟩
  · exact ⟨[], due_diff _ _ _ _ _ _ (by decide) (by decide) (by decide)⟩
  · exact ⟨[], due_non _ _ (by decide) (by decide)⟩
  · exact ⟨[], due_diff _ _ _ _ _ _ (by decide) (by decide) (by decide)⟩
  · exact ⟨[], due_diff _ _ _ _ _ _ (by decide) (by decide) (by decide)⟩
  · exact ⟨[], due_diff _ _ _ _ _ _ (by decide) (by decide) (by decide)⟩
  · exact ⟨[], due_diff _ _ _ _ _ _ (by decide) (by decide) (by decide)⟩
  · exact ⟨[], due_diff _ _ _ _ _ _ (by decide) (by decide) (by decide)⟩
  · exact ⟨[], due_thing _ _ _ _ (by decide) (by decide)⟩
theorem due_sub (a b : W) (st : Sto) (ha : a.ok) (hb : b.ok) : ∃ g, F_l_due [.str [45], a.d, b.d] st = some (zSub.of a b, st ++ g) := by
  cases a <;> cases b
  · rename_i x y
    exact ⟨[], by simp only [F_l_due, b_l_due, eVar_at, kVar_some, eC_at, eBin_at, k2_some, k3_some, eUn_at, k1_some, kVal_some, kBl_some, kEq_at, kBlN_some, kNe_at, kIn_at, kNotIn_at, kIx_at, ixO_tup, kLt_int, kLe_int, kGt_int, kGe_int, kLt_str, kLe_str, kGt_str, kGe_str, kIs_non, kIs_bl, kIs_int, kIs_str, kIs_tup, kIs_ref, kIsNot_non, kIsNot_bl, kIsNot_int, kIsNot_str, kIsNot_tup, kIsNot_ref, opAdd_int, opAdd_str, opSub_int, opMul_int, opDiv_int, opMod_int, opPow_int, opAnd_int, opOr_int, opNeg_int, eChain_at, kc1_some, kc2_some, kc3_true, kc3_false, kc4_some, tOf_at, kTru_some, kTru2_some, truD_non, truD_bl, truD_int, truD_tup, tAnd_at, kAnd_true, kAnd_false, tOr_at, kOr_true, kOr_false, tNot_at, kNot_some, tYes_at, eAnd_at, keAnd_some, keAnd2_true, keAnd2_false, eOr_at, keOr_some, keOr2_true, keOr2_false, eNot_at, keNot_some, keNot2_some, eIf_at, keIf_true, keIf_false, aNil_at, aCons_at, ka1_some, ka2_some, eTup_at, kTup_0, kTup_1, kTup_2, kTup_3, kTup_4, kTup_5, kTup_6, eLst_at, kLst_0, kLst_1, kLst_2, kLst_3, kLst_4, eDic0_at, eCall_at, kCall_some, o1_at, isiO_at, kIsi_some, tyD_non, tyD_bl, tyD_int, tyD_str, tyD_tup, eBM_at, kbm1_some, kbm2_some, eSl_at, ks2_some, ks3_some, ks4_some, oNone_at, oSome_at, kSome_int, slO_str, sSeq_at, kSeq_nx, kSeq_rt, kSeq_bk, kSeq_ct, sNext_at, sBreak_at, sCont_at, sRetN_at, sRet_at, kRet_some, sExpr_at, kExpr_some, sSet_at, kSet_some, sIf_at, kIf_true, kIf_false, sPar2_k, kPar2_some, sPar3_k, kPar3_some, sAsg_at, kAsg_some, kAsg2_some, mName_at, mTup_2, mTup_3, mCons_at, kmCons_some, mNil_at, sPut_at, kp1_some, kp2_some, kp3_some, kp4_some, kFn_rt, kFn_nx, mkFn_0, mkFn_1, mkFn_2, mkFn_3, mkFn_4, mkFn_5, sWhile_at, List.getElem?_cons_zero, List.getElem?_cons_succ, List.set_cons_zero, List.set_cons_succ, List.replicate_succ, List.replicate_zero, Nat.reduceSub, Bool.not_true, Bool.not_false, ite_true, ite_false, if_true, if_false, reduceCtorEq, eq_str, eq_num, eq_txt, eq_tru, eq_non, eq_thing, eq_pair, in_pairs, in2, in4, atI0, atI1, Sgn.of, zSub, lnums_sub, List.cons.injEq, Nat.reduceEqDiff, decide_false, decide_true, and_false, and_true, false_and, true_and, Bool.or_false, Bool.or_true, Bool.true_or, Bool.false_or, Bool.and_true, Bool.and_false, Bool.false_and, Bool.true_and, List.append_nil]⟩
  · exact ⟨[], due_diff _ _ _ _ _ _ (by decide) (by decide) (by decide)⟩
  · exact ⟨[], due_diff _ _ _ _ _ _ (by decide) (by decide) (by decide)⟩
  · exact ⟨[], due_diff _ _ _ _ _ _ (by decide) (by decide) (by decide)⟩
  · exact ⟨[], due_diff _ _ _ _ _ _ (by decide) (by decide) (by decide)⟩
  · exact ⟨[], due_diff _ _ _ _ _ _ (by decide) (by decide) (by decide)⟩
  · exact ⟨[], due_txt _ _ _ _ (by decide) (by decide) (by decide) (by decide) (by decide) (by decide) (by decide)⟩
  · exact ⟨[], due_diff _ _ _ _ _ _ (by decide) (by decide) (by decide)⟩
  · exact ⟨[], due_diff _ _ _ _ _ _ (by decide) (by decide) (by decide)⟩
  · exact ⟨[], due_diff _ _ _ _ _ _ (by decide) (by decide) (by decide)⟩
  · exact ⟨[], due_diff _ _ _ _ _ _ (by decide) (by decide) (by decide)⟩
  · exact ⟨[], due_diff _ _ _ _ _ _ (by decide) (by decide) (by decide)⟩
  · exact ⟨[], due_tru _ _ _ _ (by decide) (by decide) (by decide) (by decide)⟩
  · exact ⟨[], due_diff _ _ _ _ _ _ (by decide) (by decide) (by decide)⟩
  · exact ⟨[], due_diff _ _ _ _ _ _ (by decide) (by decide) (by decide)⟩
  · exact ⟨[], due_diff _ _ _ _ _ _ (by decide) (by decide) (by decide)⟩
  · exact ⟨[], due_diff _ _ _ _ _ _ (by decide) (by decide) (by decide)⟩
  · exact ⟨[], due_diff _ _ _ _ _ _ (by decide) (by decide) (by decide)⟩
  · exact ⟨[], due_non _ _ (by decide) (by decide)⟩
  · exact ⟨[], due_diff _ _ _ _ _ _ (by decide) (by decide) (by decide)⟩
  · exact ⟨[], due_diff _ _ _ _ _ _ (by decide) (by decide) (by decide)⟩
  · exact ⟨[], due_diff _ _ _ _ _ _ (by decide) (by decide) (by decide)⟩
  · exact ⟨[], due_diff _ _ _ _ _ _ (by decide) (by decide) (by decide)⟩
  · exact ⟨[], due_diff _ _ _ _ _ _ (by decide) (by decide) (by decide)⟩
  · exact ⟨[], due_thing _ _ _ _ (by decide) (by decide)⟩
theorem due_mul (a b : W) (st : Sto) (ha : a.ok) (hb : b.ok) : ∃ g, F_l_due [.str [42], a.d, b.d] st = some (zMul.of a b, st ++ g) := by
  cases a <;> cases b
  · rename_i x y
    exact ⟨[], by simp only [F_l_due, b_l_due, eVar_at, kVar_some, eC_at, eBin_at, k2_some, k3_some, eUn_at, k1_some, kVal_some, kBl_some, kEq_at, kBlN_some, kNe_at, kIn_at, kNotIn_at, kIx_at, ixO_tup, kLt_int, kLe_int, kGt_int, kGe_int, kLt_str, kLe_str, kGt_str, kGe_str, kIs_non, kIs_bl, kIs_int, kIs_str, kIs_tup, kIs_ref, kIsNot_non, kIsNot_bl, kIsNot_int, kIsNot_str, kIsNot_tup, kIsNot_ref, opAdd_int, opAdd_str, opSub_int, opMul_int, opDiv_int, opMod_int, opPow_int, opAnd_int, opOr_int, opNeg_int, eChain_at, kc1_some, kc2_some, kc3_true, kc3_false, kc4_some, tOf_at, kTru_some, kTru2_some, truD_non, truD_bl, truD_int, truD_tup, tAnd_at, kAnd_true, kAnd_false, tOr_at, kOr_true, kOr_false, tNot_at, kNot_some, tYes_at, eAnd_at, keAnd_some, keAnd2_true, keAnd2_false, eOr_at, keOr_some, keOr2_true, keOr2_false, eNot_at, keNot_some, keNot2_some, eIf_at, keIf_true, keIf_false, aNil_at, aCons_at, ka1_some, ka2_some, eTup_at, kTup_0, kTup_1, kTup_2, kTup_3, kTup_4, kTup_5, kTup_6, eLst_at, kLst_0, kLst_1, kLst_2, kLst_3, kLst_4, eDic0_at, eCall_at, kCall_some, o1_at, isiO_at, kIsi_some, tyD_non, tyD_bl, tyD_int, tyD_str, tyD_tup, eBM_at, kbm1_some, kbm2_some, eSl_at, ks2_some, ks3_some, ks4_some, oNone_at, oSome_at, kSome_int, slO_str, sSeq_at, kSeq_nx, kSeq_rt, kSeq_bk, kSeq_ct, sNext_at, sBreak_at, sCont_at, sRetN_at, sRet_at, kRet_some, sExpr_at, kExpr_some, sSet_at, kSet_some, sIf_at, kIf_true, kIf_false, sPar2_k, kPar2_some, sPar3_k, kPar3_some, sAsg_at, kAsg_some, kAsg2_some, mName_at, mTup_2, mTup_3, mCons_at, kmCons_some, mNil_at, sPut_at, kp1_some, kp2_some, kp3_some, kp4_some, kFn_rt, kFn_nx, mkFn_0, mkFn_1, mkFn_2, mkFn_3, mkFn_4, mkFn_5, sWhile_at, List.getElem?_cons_zero, List.getElem?_cons_succ, List.set_cons_zero, List.set_cons_succ, List.replicate_succ, List.replicate_zero, Nat.reduceSub, Bool.not_true, Bool.not_false, ite_true, ite_false, if_true, if_false, reduceCtorEq, eq_str, eq_num, eq_txt, eq_tru, eq_non, eq_thing, eq_pair, in_pairs, in2, in4, atI0, atI1, Sgn.of, zMul, lnums_mul x y st ha hb, List.cons.injEq, Nat.reduceEqDiff, decide_false, decide_true, and_false, and_true, false_and, true_and, Bool.or_false, Bool.or_true, Bool.true_or, Bool.false_or, Bool.and_true, Bool.and_false, Bool.false_and, Bool.true_and, List.append_nil]⟩
  · exact ⟨[], due_diff _ _ _ _ _ _ (by decide) (by decide) (by decide)⟩
  · exact ⟨[], due_diff _ _ _ _ _ _ (by decide) (by decide) (by decide)⟩
  · exact ⟨[], due_diff _ _ _ _ _ _ (by decide) (by decide) (by decide)⟩
  · exact ⟨[], due_diff _ _ _ _ _ _ (by decide) (by decide) (by decide)⟩
  · exact ⟨[], due_diff _ _ _ _ _ _ (by decide) (by decide) (by decide)⟩
  · exact ⟨[], due_txt _ _ _ _ (by decide) (by decide) (by decide) (by decide) (by decide) (by decide) (by decide)⟩
  · exact ⟨[], due_diff _ _ _ _ _ _ (by decide) (by decide) (by decide)⟩
  · exact ⟨[], due_diff _ _ _ _ _ _ (by decide) (by decide) (by decide)⟩
  · exact ⟨[], due_diff _ _ _ _ _ _ (by decide) (by decide) (by decide)⟩
  · exact ⟨[], due_diff _ _ _ _ _ _ (by decide) (by decide) (by decide)⟩
  · exact ⟨[], due_diff _ _ _ _ _ _ (by decide) (by decide) (by decide)⟩
  · exact ⟨[], due_tru _ _ _ _ (by decide) (by decide) (by decide) (by decide)⟩
  · exact ⟨[], due_diff _ _ _ _ _ _ (by decide) (by decide) (by decide)⟩
  · exact ⟨[], due_diff _ _ _ _ _ _ (by decide) (by decide) (by decide)⟩
  · exact ⟨[], due_diff _ _ _ _ _ _ (by decide) (by decide) (by decide)⟩
  · exact ⟨[], due_diff _ _ _ _ _ _ (by decide) (by decide) (by decide)⟩
  · exact ⟨[], due_diff _ _ _ _ _ _ (by decide) (by decide) (by decide)⟩
  · exact ⟨[], due_non _ _ (by decide) (by decide)⟩
  · exact ⟨[], due_diff _ _ _ _ _ _ (by decide) (by decide) (by decide)⟩
  · exact ⟨[], due_diff _ _ _ _ _ _ (by decide) (by decide) (by decide)⟩
  · exact ⟨[], due_diff _ _ _ _ _ _ (by decide) (by decide) (by decide)⟩
  · exact ⟨[], due_diff _ _ _ _ _ _ (by decide) (by decide) (by decide)⟩
  · exact ⟨[], due_diff _ _ _ _ _ _ (by decide) (by decide) (by decide)⟩
  · exact ⟨[], due_thing _ _ _ _ (by decide) (by decide)⟩
theorem due_div (a b : W) (st : Sto) (ha : a.ok) (hb : b.ok) : ∃ g, F_l_due [.str [47, 47], a.d, b.d] st = some (zDiv.of a b, st ++ g) := by
  cases a <;> cases b
  · rename_i x y
    exact ⟨[], by simp only [F_l_due, b_l_due, eVar_at, kVar_some, eC_at, eBin_at, k2_some, k3_some, eUn_at, k1_some, kVal_some, kBl_some, kEq_at, kBlN_some, kNe_at, kIn_at, kNotIn_at, kIx_at, ixO_tup, kLt_int, kLe_int, kGt_int, kGe_int, kLt_str, kLe_str, kGt_str, kGe_str, kIs_non, kIs_bl, kIs_int, kIs_str, kIs_tup, kIs_ref, kIsNot_non, kIsNot_bl, kIsNot_int, kIsNot_str, kIsNot_tup, kIsNot_ref, opAdd_int, opAdd_str, opSub_int, opMul_int, opDiv_int, opMod_int, opPow_int, opAnd_int, opOr_int, opNeg_int, eChain_at, kc1_some, kc2_some, kc3_true, kc3_false, kc4_some, tOf_at, kTru_some, kTru2_some, truD_non, truD_bl, truD_int, truD_tup, tAnd_at, kAnd_true, kAnd_false, tOr_at, kOr_true, kOr_false, tNot_at, kNot_some, tYes_at, eAnd_at, keAnd_some, keAnd2_true, keAnd2_false, eOr_at, keOr_some, keOr2_true, keOr2_false, eNot_at, keNot_some, keNot2_some, eIf_at, keIf_true, keIf_false, aNil_at, aCons_at, ka1_some, ka2_some, eTup_at, kTup_0, kTup_1, kTup_2, kTup_3, kTup_4, kTup_5, kTup_6, eLst_at, kLst_0, kLst_1, kLst_2, kLst_3, kLst_4, eDic0_at, eCall_at, kCall_some, o1_at, isiO_at, kIsi_some, tyD_non, tyD_bl, tyD_int, tyD_str, tyD_tup, eBM_at, kbm1_some, kbm2_some, eSl_at, ks2_some, ks3_some, ks4_some, oNone_at, oSome_at, kSome_int, slO_str, sSeq_at, kSeq_nx, kSeq_rt, kSeq_bk, kSeq_ct, sNext_at, sBreak_at, sCont_at, sRetN_at, sRet_at, kRet_some, sExpr_at, kExpr_some, sSet_at, kSet_some, sIf_at, kIf_true, kIf_false, sPar2_k, kPar2_some, sPar3_k, kPar3_some, sAsg_at, kAsg_some, kAsg2_some, mName_at, mTup_2, mTup_3, mCons_at, kmCons_some, mNil_at, sPut_at, kp1_some, kp2_some, kp3_some, kp4_some, kFn_rt, kFn_nx, mkFn_0, mkFn_1, mkFn_2, mkFn_3, mkFn_4, mkFn_5, sWhile_at, List.getElem?_cons_zero, List.getElem?_cons_succ, List.set_cons_zero, List.set_cons_succ, List.replicate_succ, List.replicate_zero, Nat.reduceSub, Bool.not_true, Bool.not_false, ite_true, ite_false, if_true, if_false, reduceCtorEq, eq_str, eq_num, eq_txt, eq_tru, eq_non, eq_thing, eq_pair, in_pairs, in2, in4, atI0, atI1, Sgn.of, zDiv, lnums_div x y st ha hb, List.cons.injEq, Nat.reduceEqDiff, decide_false, decide_true, and_false, and_true, false_and, true_and, Bool.or_false, Bool.or_true, Bool.true_or, Bool.false_or, Bool.and_true, Bool.and_false, Bool.false_and, Bool.true_and, List.append_nil]⟩
  · exact ⟨[], due_diff _ _ _ _ _ _ (by decide) (by decide) (by decide)⟩
  · exact ⟨[], due_diff _ _ _ _ _ _ (by decide) (by decide) (by decide)⟩
  · exact ⟨[], due_diff _ _ _ _ _ _ (by decide) (by decide) (by decide)⟩
  · exact ⟨[], due_diff _ _ _ _ _ _ (by decide) (by decide) (by decide)⟩
  · exact ⟨[], due_diff _ _ _ _ _ _ (by decide) (by decide) (by decide)⟩
  · exact ⟨[], due_txt _ _ _ _ (by decide) (by decide) (by decide) (by decide) (by decide) (by decide) (by decide)⟩
  · exact ⟨[], due_diff _ _ _ _ _ _ (by decide) (by decide) (by decide)⟩
  · exact ⟨[], due_diff _ _ _ _ _ _ (by decide) (by decide) (by decide)⟩
  · exact ⟨[], due_diff _ _ _ _ _ _ (by decide) (by decide) (by decide)⟩
  · exact ⟨[], due_diff _ _ _ _ _ _ (by decide) (by decide) (by decide)⟩
  · exact ⟨[], due_diff _ _ _ _ _ _ (by decide) (by decide) (by decide)⟩
  · exact ⟨[], due_tru _ _ _ _ (by decide) (by decide) (by decide) (by decide)⟩
  · exact ⟨[], due_diff _ _ _ _ _ _ (by decide) (by decide) (by decide)⟩
  · exact ⟨[], due_diff _ _ _ _ _ _ (by decide) (by decide) (by decide)⟩
  · exact ⟨[], due_diff _ _ _ _ _ _ (by decide) (by decide) (by decide)⟩
  · exact ⟨[], due_diff _ _ _ _ _ _ (by decide) (by decide) (by decide)⟩
  · exact ⟨[], due_diff _ _ _ _ _ _ (by decide) (by decide) (by decide)⟩
  · exact ⟨[], due_non _ _ (by decide) (by decide)⟩
  · exact ⟨[], due_diff _ _ _ _ _ _ (by decide) (by decide) (by decide)⟩
  · exact ⟨[], due_diff _ _ _ _ _ _ (by decide) (by decide) (by decide)⟩
  · exact ⟨[], due_diff _ _ _ _ _ _ (by decide) (by decide) (by decide)⟩
  · exact ⟨[], due_diff _ _ _ _ _ _ (by decide) (by decide) (by decide)⟩
  · exact ⟨[], due_diff _ _ _ _ _ _ (by decide) (by decide) (by decide)⟩
  · exact ⟨[], due_thing _ _ _ _ (by decide) (by decide)⟩
theorem due_and (a b : W) (st : Sto) (ha : a.ok) (hb : b.ok) : ∃ g, F_l_due [.str [38], a.d, b.d] st = some (zAnd.of a b, st ++ g) := by
  cases a <;> cases b
  · rename_i x y
    exact ⟨[], by simp only [F_l_due, b_l_due, eVar_at, kVar_some, eC_at, eBin_at, k2_some, k3_some, eUn_at, k1_some, kVal_some, kBl_some, kEq_at, kBlN_some, kNe_at, kIn_at, kNotIn_at, kIx_at, ixO_tup, kLt_int, kLe_int, kGt_int, kGe_int, kLt_str, kLe_str, kGt_str, kGe_str, kIs_non, kIs_bl, kIs_int, kIs_str, kIs_tup, kIs_ref, kIsNot_non, kIsNot_bl, kIsNot_int, kIsNot_str, kIsNot_tup, kIsNot_ref, opAdd_int, opAdd_str, opSub_int, opMul_int, opDiv_int, opMod_int, opPow_int, opAnd_int, opOr_int, opNeg_int, eChain_at, kc1_some, kc2_some, kc3_true, kc3_false, kc4_some, tOf_at, kTru_some, kTru2_some, truD_non, truD_bl, truD_int, truD_tup, tAnd_at, kAnd_true, kAnd_false, tOr_at, kOr_true, kOr_false, tNot_at, kNot_some, tYes_at, eAnd_at, keAnd_some, keAnd2_true, keAnd2_false, eOr_at, keOr_some, keOr2_true, keOr2_false, eNot_at, keNot_some, keNot2_some, eIf_at, keIf_true, keIf_false, aNil_at, aCons_at, ka1_some, ka2_some, eTup_at, kTup_0, kTup_1, kTup_2, kTup_3, kTup_4, kTup_5, kTup_6, eLst_at, kLst_0, kLst_1, kLst_2, kLst_3, kLst_4, eDic0_at, eCall_at, kCall_some, o1_at, isiO_at, kIsi_some, tyD_non, tyD_bl, tyD_int, tyD_str, tyD_tup, eBM_at, kbm1_some, kbm2_some, eSl_at, ks2_some, ks3_some, ks4_some, oNone_at, oSome_at, kSome_int, slO_str, sSeq_at, kSeq_nx, kSeq_rt, kSeq_bk, kSeq_ct, sNext_at, sBreak_at, sCont_at, sRetN_at, sRet_at, kRet_some, sExpr_at, kExpr_some, sSet_at, kSet_some, sIf_at, kIf_true, kIf_false, sPar2_k, kPar2_some, sPar3_k, kPar3_some, sAsg_at, kAsg_some, kAsg2_some, mName_at, mTup_2, mTup_3, mCons_at, kmCons_some, mNil_at, sPut_at, kp1_some, kp2_some, kp3_some, kp4_some, kFn_rt, kFn_nx, mkFn_0, mkFn_1, mkFn_2, mkFn_3, mkFn_4, mkFn_5, sWhile_at, List.getElem?_cons_zero, List.getElem?_cons_succ, List.set_cons_zero, List.set_cons_succ, List.replicate_succ, List.replicate_zero, Nat.reduceSub, Bool.not_true, Bool.not_false, ite_true, ite_false, if_true, if_false, reduceCtorEq, eq_str, eq_num, eq_txt, eq_tru, eq_non, eq_thing, eq_pair, in_pairs, in2, in4, atI0, atI1, Sgn.of, zAnd, lnums_and x y st ha hb, List.cons.injEq, Nat.reduceEqDiff, decide_false, decide_true, and_false, and_true, false_and, true_and, Bool.or_false, Bool.or_true, Bool.true_or, Bool.false_or, Bool.and_true, Bool.and_false, Bool.false_and, Bool.true_and, List.append_nil]⟩
  · exact ⟨[], due_diff _ _ _ _ _ _ (by decide) (by decide) (by decide)⟩
  · exact ⟨[], due_diff _ _ _ _ _ _ (by decide) (by decide) (by decide)⟩
  · exact ⟨[], due_diff _ _ _ _ _ _ (by decide) (by decide) (by decide)⟩
  · exact ⟨[], due_diff _ _ _ _ _ _ (by decide) (by decide) (by decide)⟩
  · exact ⟨[], due_diff _ _ _ _ _ _ (by decide) (by decide) (by decide)⟩
  · exact ⟨[], due_txt _ _ _ _ (by decide) (by decide) (by decide) (by decide) (by decide) (by decide) (by decide)⟩
  · exact ⟨[], due_diff _ _ _ _ _ _ (by decide) (by decide) (by decide)⟩
  · exact ⟨[], due_diff _ _ _ _ _ _ (by decide) (by decide) (by decide)⟩
  · exact ⟨[], due_diff _ _ _ _ _ _ (by decide) (by decide) (by decide)⟩
  · exact ⟨[], due_diff _ _ _ _ _ _ (by decide) (by decide) (by decide)⟩
  · exact ⟨[], due_diff _ _ _ _ _ _ (by decide) (by decide) (by decide)⟩
  · rename_i x y
    refine ⟨[], ?_⟩
    cases x <;> cases y <;> simp only [F_l_due, b_l_due, eVar_at, kVar_some, eC_at, eBin_at, k2_some, k3_some, eUn_at, k1_some, kVal_some, kBl_some, kEq_at, kBlN_some, kNe_at, kIn_at, kNotIn_at, kIx_at, ixO_tup, kLt_int, kLe_int, kGt_int, kGe_int, kLt_str, kLe_str, kGt_str, kGe_str, kIs_non, kIs_bl, kIs_int, kIs_str, kIs_tup, kIs_ref, kIsNot_non, kIsNot_bl, kIsNot_int, kIsNot_str, kIsNot_tup, kIsNot_ref, opAdd_int, opAdd_str, opSub_int, opMul_int, opDiv_int, opMod_int, opPow_int, opAnd_int, opOr_int, opNeg_int, eChain_at, kc1_some, kc2_some, kc3_true, kc3_false, kc4_some, tOf_at, kTru_some, kTru2_some, truD_non, truD_bl, truD_int, truD_tup, tAnd_at, kAnd_true, kAnd_false, tOr_at, kOr_true, kOr_false, tNot_at, kNot_some, tYes_at, eAnd_at, keAnd_some, keAnd2_true, keAnd2_false, eOr_at, keOr_some, keOr2_true, keOr2_false, eNot_at, keNot_some, keNot2_some, eIf_at, keIf_true, keIf_false, aNil_at, aCons_at, ka1_some, ka2_some, eTup_at, kTup_0, kTup_1, kTup_2, kTup_3, kTup_4, kTup_5, kTup_6, eLst_at, kLst_0, kLst_1, kLst_2, kLst_3, kLst_4, eDic0_at, eCall_at, kCall_some, o1_at, isiO_at, kIsi_some, tyD_non, tyD_bl, tyD_int, tyD_str, tyD_tup, eBM_at, kbm1_some, kbm2_some, eSl_at, ks2_some, ks3_some, ks4_some, oNone_at, oSome_at, kSome_int, slO_str, sSeq_at, kSeq_nx, kSeq_rt, kSeq_bk, kSeq_ct, sNext_at, sBreak_at, sCont_at, sRetN_at, sRet_at, kRet_some, sExpr_at, kExpr_some, sSet_at, kSet_some, sIf_at, kIf_true, kIf_false, sPar2_k, kPar2_some, sPar3_k, kPar3_some, sAsg_at, kAsg_some, kAsg2_some, mName_at, mTup_2, mTup_3, mCons_at, kmCons_some, mNil_at, sPut_at, kp1_some, kp2_some, kp3_some, kp4_some, kFn_rt, kFn_nx, mkFn_0, mkFn_1, mkFn_2, mkFn_3, mkFn_4, mkFn_5, sWhile_at, List.getElem?_cons_zero, List.getElem?_cons_succ, List.set_cons_zero, List.set_cons_succ, List.replicate_succ, List.replicate_zero, Nat.reduceSub, Bool.not_true, Bool.not_false, ite_true, ite_false, if_true, if_false, reduceCtorEq, eq_str, eq_num, eq_txt, eq_tru, eq_non, eq_thing, eq_pair, in_pairs, in2, in4, atI0, atI1, Sgn.of, zAnd, intO, eq_int, List.cons.injEq, Nat.reduceEqDiff, decide_false, decide_true, and_false, and_true, false_and, true_and, Bool.or_false, Bool.or_true, Bool.true_or, Bool.false_or, Bool.and_true, Bool.and_false, Bool.false_and, Bool.true_and, List.append_nil] <;> rfl
  · exact ⟨[], due_diff _ _ _ _ _ _ (by decide) (by decide) (by decide)⟩
  · exact ⟨[], due_diff _ _ _ _ _ _ (by decide) (by decide) (by decide)⟩
  · exact ⟨[], due_diff _ _ _ _ _ _ (by decide) (by decide) (by decide)⟩
  · exact ⟨[], due_diff _ _ _ _ _ _ (by decide) (by decide) (by decide)⟩
  · exact ⟨[], due_diff _ _ _ _ _ _ (by decide) (by decide) (by decide)⟩
  · exact ⟨[], due_non _ _ (by decide) (by decide)⟩
  · exact ⟨[], due_diff _ _ _ _ _ _ (by decide) (by decide) (by decide)⟩
  · exact ⟨[], due_diff _ _ _ _ _ _ (by decide) (by decide) (by decide)⟩
  · exact ⟨[], due_diff _ _ _ _ _ _ (by decide) (by decide) (by decide)⟩
  · exact ⟨[], due_diff _ _ _ _ _ _ (by decide) (by decide) (by decide)⟩
  · exact ⟨[], due_diff _ _ _ _ _ _ (by decide) (by decide) (by decide)⟩
  · exact ⟨[], due_thing _ _ _ _ (by decide) (by decide)⟩
theorem due_or (a b : W) (st : Sto) (ha : a.ok) (hb : b.ok) : ∃ g, F_l_due [.str [124], a.d, b.d] st = some (zOr.of a b, st ++ g) := by
  cases a <;> cases b
  · rename_i x y
    exact ⟨[], by simp only [F_l_due, b_l_due, eVar_at, kVar_some, eC_at, eBin_at, k2_some, k3_some, eUn_at, k1_some, kVal_some, kBl_some, kEq_at, kBlN_some, kNe_at, kIn_at, kNotIn_at, kIx_at, ixO_tup, kLt_int, kLe_int, kGt_int, kGe_int, kLt_str, kLe_str, kGt_str, kGe_str, kIs_non, kIs_bl, kIs_int, kIs_str, kIs_tup, kIs_ref, kIsNot_non, kIsNot_bl, kIsNot_int, kIsNot_str, kIsNot_tup, kIsNot_ref, opAdd_int, opAdd_str, opSub_int, opMul_int, opDiv_int, opMod_int, opPow_int, opAnd_int, opOr_int, opNeg_int, eChain_at, kc1_some, kc2_some, kc3_true, kc3_false, kc4_some, tOf_at, kTru_some, kTru2_some, truD_non, truD_bl, truD_int, truD_tup, tAnd_at, kAnd_true, kAnd_false, tOr_at, kOr_true, kOr_false, tNot_at, kNot_some, tYes_at, eAnd_at, keAnd_some, keAnd2_true, keAnd2_false, eOr_at, keOr_some, keOr2_true, keOr2_false, eNot_at, keNot_some, keNot2_some, eIf_at, keIf_true, keIf_false, aNil_at, aCons_at, ka1_some, ka2_some, eTup_at, kTup_0, kTup_1, kTup_2, kTup_3, kTup_4, kTup_5, kTup_6, eLst_at, kLst_0, kLst_1, kLst_2, kLst_3, kLst_4, eDic0_at, eCall_at, kCall_some, o1_at, isiO_at, kIsi_some, tyD_non, tyD_bl, tyD_int, tyD_str, tyD_tup, eBM_at, kbm1_some, kbm2_some, eSl_at, ks2_some, ks3_some, ks4_some, oNone_at, oSome_at, kSome_int, slO_str, sSeq_at, kSeq_nx, kSeq_rt, kSeq_bk, kSeq_ct, sNext_at, sBreak_at, sCont_at, sRetN_at, sRet_at, kRet_some, sExpr_at, kExpr_some, sSet_at, kSet_some, sIf_at, kIf_true, kIf_false, sPar2_k, kPar2_some, sPar3_k, kPar3_some, sAsg_at, kAsg_some, kAsg2_some, mName_at, mTup_2, mTup_3, mCons_at, kmCons_some, mNil_at, sPut_at, kp1_some, kp2_some, kp3_some, kp4_some, kFn_rt, kFn_nx, mkFn_0, mkFn_1, mkFn_2, mkFn_3, mkFn_4, mkFn_5, sWhile_at, List.getElem?_cons_zero, List.getElem?_cons_succ, List.set_cons_zero, List.set_cons_succ, List.replicate_succ, List.replicate_zero, Nat.reduceSub, Bool.not_true, Bool.not_false, ite_true, ite_false, if_true, if_false, reduceCtorEq, eq_str, eq_num, eq_txt, eq_tru, eq_non, eq_thing, eq_pair, in_pairs, in2, in4, atI0, atI1, Sgn.of, zOr, lnums_or x y st ha hb, List.cons.injEq, Nat.reduceEqDiff, decide_false, decide_true, and_false, and_true, false_and, true_and, Bool.or_false, Bool.or_true, Bool.true_or, Bool.false_or, Bool.and_true, Bool.and_false, Bool.false_and, Bool.true_and, List.append_nil]⟩
  · exact ⟨[], due_diff _ _ _ _ _ _ (by decide) (by decide) (by decide)⟩
  · exact ⟨[], due_diff _ _ _ _ _ _ (by decide) (by decide) (by decide)⟩
  · exact ⟨[], due_diff _ _ _ _ _ _ (by decide) (by decide) (by decide)⟩
  · exact ⟨[], due_diff _ _ _ _ _ _ (by decide) (by decide) (by decide)⟩
  · exact ⟨[], due_diff _ _ _ _ _ _ (by decide) (by decide) (by decide)⟩
  · exact ⟨[], due_txt _ _ _ _ (by decide) (by decide) (by decide) (by decide) (by decide) (by decide) (by decide)⟩
  · exact ⟨[], due_diff _ _ _ _ _ _ (by decide) (by decide) (by decide)⟩
  · exact ⟨[], due_diff _ _ _ _ _ _ (by decide) (by decide) (by decide)⟩
  · exact ⟨[], due_diff _ _ _ _ _ _ (by decide) (by decide) (by decide)⟩
  · exact ⟨[], due_diff _ _ _ _ _ _ (by decide) (by decide) (by decide)⟩
  · exact ⟨[], due_diff _ _ _ _ _ _ (by decide) (by decide) (by decide)⟩
  · rename_i x y
    refine ⟨[], ?_⟩
    cases x <;> cases y <;> simp only [F_l_due, b_l_due, eVar_at, kVar_some, eC_at, eBin_at, k2_some, k3_some, eUn_at, k1_some, kVal_some, kBl_some, kEq_at, kBlN_some, kNe_at, kIn_at, kNotIn_at, kIx_at, ixO_tup, kLt_int, kLe_int, kGt_int, kGe_int, kLt_str, kLe_str, kGt_str, kGe_str, kIs_non, kIs_bl, kIs_int, kIs_str, kIs_tup, kIs_ref, kIsNot_non, kIsNot_bl, kIsNot_int, kIsNot_str, kIsNot_tup, kIsNot_ref, opAdd_int, opAdd_str, opSub_int, opMul_int, opDiv_int, opMod_int, opPow_int, opAnd_int, opOr_int, opNeg_int, eChain_at, kc1_some, kc2_some, kc3_true, kc3_false, kc4_some, tOf_at, kTru_some, kTru2_some, truD_non, truD_bl, truD_int, truD_tup, tAnd_at, kAnd_true, kAnd_false, tOr_at, kOr_true, kOr_false, tNot_at, kNot_some, tYes_at, eAnd_at, keAnd_some, keAnd2_true, keAnd2_false, eOr_at, keOr_some, keOr2_true, keOr2_false, eNot_at, keNot_some, keNot2_some, eIf_at, keIf_true, keIf_false, aNil_at, aCons_at, ka1_some, ka2_some, eTup_at, kTup_0, kTup_1, kTup_2, kTup_3, kTup_4, kTup_5, kTup_6, eLst_at, kLst_0, kLst_1, kLst_2, kLst_3, kLst_4, eDic0_at, eCall_at, kCall_some, o1_at, isiO_at, kIsi_some, tyD_non, tyD_bl, tyD_int, tyD_str, tyD_tup, eBM_at, kbm1_some, kbm2_some, eSl_at, ks2_some, ks3_some, ks4_some, oNone_at, oSome_at, kSome_int, slO_str, sSeq_at, kSeq_nx, kSeq_rt, kSeq_bk, kSeq_ct, sNext_at, sBreak_at, sCont_at, sRetN_at, sRet_at, kRet_some, sExpr_at, kExpr_some, sSet_at, kSet_some, sIf_at, kIf_true, kIf_false, sPar2_k, kPar2_some, sPar3_k, kPar3_some, sAsg_at, kAsg_some, kAsg2_some, mName_at, mTup_2, mTup_3, mCons_at, kmCons_some, mNil_at, sPut_at, kp1_some, kp2_some, kp3_some, kp4_some, kFn_rt, kFn_nx, mkFn_0, mkFn_1, mkFn_2, mkFn_3, mkFn_4, mkFn_5, sWhile_at, List.getElem?_cons_zero, List.getElem?_cons_succ, List.set_cons_zero, List.set_cons_succ, List.replicate_succ, List.replicate_zero, Nat.reduceSub, Bool.not_true, Bool.not_false, ite_true, ite_false, if_true, if_false, reduceCtorEq, eq_str, eq_num, eq_txt, eq_tru, eq_non, eq_thing, eq_pair, in_pairs, in2, in4, atI0, atI1, Sgn.of, zOr, intO, eq_int, List.cons.injEq, Nat.reduceEqDiff, decide_false, decide_true, and_false, and_true, false_and, true_and, Bool.or_false, Bool.or_true, Bool.true_or, Bool.false_or, Bool.and_true, Bool.and_false, Bool.false_and, Bool.true_and, List.append_nil] <;> rfl
  · exact ⟨[], due_diff _ _ _ _ _ _ (by decide) (by decide) (by decide)⟩
  · exact ⟨[], due_diff _ _ _ _ _ _ (by decide) (by decide) (by decide)⟩
  · exact ⟨[], due_diff _ _ _ _ _ _ (by decide) (by decide) (by decide)⟩
  · exact ⟨[], due_diff _ _ _ _ _ _ (by decide) (by decide) (by decide)⟩
  · exact ⟨[], due_diff _ _ _ _ _ _ (by decide) (by decide) (by decide)⟩
  · exact ⟨[], due_non _ _ (by decide) (by decide)⟩
  · exact ⟨[], due_diff _ _ _ _ _ _ (by decide) (by decide) (by decide)⟩
  · exact ⟨[], due_diff _ _ _ _ _ _ (by decide) (by decide) (by decide)⟩
  · exact ⟨[], due_diff _ _ _ _ _ _ (by decide) (by decide) (by decide)⟩
  · exact ⟨[], due_diff _ _ _ _ _ _ (by decide) (by decide) (by decide)⟩
  · exact ⟨[], due_diff _ _ _ _ _ _ (by decide) (by decide) (by decide)⟩
  · exact ⟨[], due_thing _ _ _ _ (by decide) (by decide)⟩
theorem due_lt (a b : W) (st : Sto) (ha : a.ok) (hb : b.ok) : ∃ g, F_l_due [.str [60], a.d, b.d] st = some (zLt.of a b, st ++ g) := by
  cases a <;> cases b
  · rename_i x y
    exact ⟨[.dic (tellD (decide (x < y)) (x == y))], by simp only [F_l_due, b_l_due, eVar_at, kVar_some, eC_at, eBin_at, k2_some, k3_some, eUn_at, k1_some, kVal_some, kBl_some, kEq_at, kBlN_some, kNe_at, kIn_at, kNotIn_at, kIx_at, ixO_tup, kLt_int, kLe_int, kGt_int, kGe_int, kLt_str, kLe_str, kGt_str, kGe_str, kIs_non, kIs_bl, kIs_int, kIs_str, kIs_tup, kIs_ref, kIsNot_non, kIsNot_bl, kIsNot_int, kIsNot_str, kIsNot_tup, kIsNot_ref, opAdd_int, opAdd_str, opSub_int, opMul_int, opDiv_int, opMod_int, opPow_int, opAnd_int, opOr_int, opNeg_int, eChain_at, kc1_some, kc2_some, kc3_true, kc3_false, kc4_some, tOf_at, kTru_some, kTru2_some, truD_non, truD_bl, truD_int, truD_tup, tAnd_at, kAnd_true, kAnd_false, tOr_at, kOr_true, kOr_false, tNot_at, kNot_some, tYes_at, eAnd_at, keAnd_some, keAnd2_true, keAnd2_false, eOr_at, keOr_some, keOr2_true, keOr2_false, eNot_at, keNot_some, keNot2_some, eIf_at, keIf_true, keIf_false, aNil_at, aCons_at, ka1_some, ka2_some, eTup_at, kTup_0, kTup_1, kTup_2, kTup_3, kTup_4, kTup_5, kTup_6, eLst_at, kLst_0, kLst_1, kLst_2, kLst_3, kLst_4, eDic0_at, eCall_at, kCall_some, o1_at, isiO_at, kIsi_some, tyD_non, tyD_bl, tyD_int, tyD_str, tyD_tup, eBM_at, kbm1_some, kbm2_some, eSl_at, ks2_some, ks3_some, ks4_some, oNone_at, oSome_at, kSome_int, slO_str, sSeq_at, kSeq_nx, kSeq_rt, kSeq_bk, kSeq_ct, sNext_at, sBreak_at, sCont_at, sRetN_at, sRet_at, kRet_some, sExpr_at, kExpr_some, sSet_at, kSet_some, sIf_at, kIf_true, kIf_false, sPar2_k, kPar2_some, sPar3_k, kPar3_some, sAsg_at, kAsg_some, kAsg2_some, mName_at, mTup_2, mTup_3, mCons_at, kmCons_some, mNil_at, sPut_at, kp1_some, kp2_some, kp3_some, kp4_some, kFn_rt, kFn_nx, mkFn_0, mkFn_1, mkFn_2, mkFn_3, mkFn_4, mkFn_5, sWhile_at, List.getElem?_cons_zero, List.getElem?_cons_succ, List.set_cons_zero, List.set_cons_succ, List.replicate_succ, List.replicate_zero, Nat.reduceSub, Bool.not_true, Bool.not_false, ite_true, ite_false, if_true, if_false, reduceCtorEq, eq_str, eq_num, eq_txt, eq_tru, eq_non, eq_thing, eq_pair, in_pairs, in2, in4, atI0, atI1, Sgn.of, zLt, disp_due, ix_due, val_lt, List.cons.injEq, Nat.reduceEqDiff, decide_false, decide_true, and_false, and_true, false_and, true_and, Bool.or_false, Bool.or_true, Bool.true_or, Bool.false_or, Bool.and_true, Bool.and_false, Bool.false_and, Bool.true_and, List.append_nil]⟩
  · exact ⟨[], due_diff _ _ _ _ _ _ (by decide) (by decide) (by decide)⟩
  · exact ⟨[], due_diff _ _ _ _ _ _ (by decide) (by decide) (by decide)⟩
  · exact ⟨[], due_diff _ _ _ _ _ _ (by decide) (by decide) (by decide)⟩
  · exact ⟨[], due_diff _ _ _ _ _ _ (by decide) (by decide) (by decide)⟩
  · exact ⟨[], due_diff _ _ _ _ _ _ (by decide) (by decide) (by decide)⟩
  · rename_i x y
    exact ⟨[.dic (tellD (decide (x < y)) (decide (x = y)))], by simp only [F_l_due, b_l_due, eVar_at, kVar_some, eC_at, eBin_at, k2_some, k3_some, eUn_at, k1_some, kVal_some, kBl_some, kEq_at, kBlN_some, kNe_at, kIn_at, kNotIn_at, kIx_at, ixO_tup, kLt_int, kLe_int, kGt_int, kGe_int, kLt_str, kLe_str, kGt_str, kGe_str, kIs_non, kIs_bl, kIs_int, kIs_str, kIs_tup, kIs_ref, kIsNot_non, kIsNot_bl, kIsNot_int, kIsNot_str, kIsNot_tup, kIsNot_ref, opAdd_int, opAdd_str, opSub_int, opMul_int, opDiv_int, opMod_int, opPow_int, opAnd_int, opOr_int, opNeg_int, eChain_at, kc1_some, kc2_some, kc3_true, kc3_false, kc4_some, tOf_at, kTru_some, kTru2_some, truD_non, truD_bl, truD_int, truD_tup, tAnd_at, kAnd_true, kAnd_false, tOr_at, kOr_true, kOr_false, tNot_at, kNot_some, tYes_at, eAnd_at, keAnd_some, keAnd2_true, keAnd2_false, eOr_at, keOr_some, keOr2_true, keOr2_false, eNot_at, keNot_some, keNot2_some, eIf_at, keIf_true, keIf_false, aNil_at, aCons_at, ka1_some, ka2_some, eTup_at, kTup_0, kTup_1, kTup_2, kTup_3, kTup_4, kTup_5, kTup_6, eLst_at, kLst_0, kLst_1, kLst_2, kLst_3, kLst_4, eDic0_at, eCall_at, kCall_some, o1_at, isiO_at, kIsi_some, tyD_non, tyD_bl, tyD_int, tyD_str, tyD_tup, eBM_at, kbm1_some, kbm2_some, eSl_at, ks2_some, ks3_some, ks4_some, oNone_at, oSome_at, kSome_int, slO_str, sSeq_at, kSeq_nx, kSeq_rt, kSeq_bk, kSeq_ct, sNext_at, sBreak_at, sCont_at, sRetN_at, sRet_at, kRet_some, sExpr_at, kExpr_some, sSet_at, kSet_some, sIf_at, kIf_true, kIf_false, sPar2_k, kPar2_some, sPar3_k, kPar3_some, sAsg_at, kAsg_some, kAsg2_some, mName_at, mTup_2, mTup_3, mCons_at, kmCons_some, mNil_at, sPut_at, kp1_some, kp2_some, kp3_some, kp4_some, kFn_rt, kFn_nx, mkFn_0, mkFn_1, mkFn_2, mkFn_3, mkFn_4, mkFn_5, sWhile_at, List.getElem?_cons_zero, List.getElem?_cons_succ, List.set_cons_zero, List.set_cons_succ, List.replicate_succ, List.replicate_zero, Nat.reduceSub, Bool.not_true, Bool.not_false, ite_true, ite_false, if_true, if_false, reduceCtorEq, eq_str, eq_num, eq_txt, eq_tru, eq_non, eq_thing, eq_pair, in_pairs, in2, in4, atI0, atI1, Sgn.of, zLt, disp_due, ix_due, val_lt, List.cons.injEq, Nat.reduceEqDiff, decide_false, decide_true, and_false, and_true, false_and, true_and, Bool.or_false, Bool.or_true, Bool.true_or, Bool.false_or, Bool.and_true, Bool.and_false, Bool.false_and, Bool.true_and, List.append_nil]⟩
  · exact ⟨[], due_diff _ _ _ _ _ _ (by decide) (by decide) (by decide)⟩
  · exact ⟨[], due_diff _ _ _ _ _ _ (by decide) (by decide) (by decide)⟩
  · exact ⟨[], due_diff _ _ _ _ _ _ (by decide) (by decide) (by decide)⟩
  · exact ⟨[], due_diff _ _ _ _ _ _ (by decide) (by decide) (by decide)⟩
  · exact ⟨[], due_diff _ _ _ _ _ _ (by decide) (by decide) (by decide)⟩
  · exact ⟨[], due_tru _ _ _ _ (by decide) (by decide) (by decide) (by decide)⟩
  · exact ⟨[], due_diff _ _ _ _ _ _ (by decide) (by decide) (by decide)⟩
  · exact ⟨[], due_diff _ _ _ _ _ _ (by decide) (by decide) (by decide)⟩
  · exact ⟨[], due_diff _ _ _ _ _ _ (by decide) (by decide) (by decide)⟩
  · exact ⟨[], due_diff _ _ _ _ _ _ (by decide) (by decide) (by decide)⟩
  · exact ⟨[], due_diff _ _ _ _ _ _ (by decide) (by decide) (by decide)⟩
  · exact ⟨[], due_non _ _ (by decide) (by decide)⟩
  · exact ⟨[], due_diff _ _ _ _ _ _ (by decide) (by decide) (by decide)⟩
  · exact ⟨[], due_diff _ _ _ _ _ _ (by decide) (by decide) (by decide)⟩
  · exact ⟨[], due_diff _ _ _ _ _ _ (by decide) (by decide) (by decide)⟩
  · exact ⟨[], due_diff _ _ _ _ _ _ (by decide) (by decide) (by decide)⟩
  · exact ⟨[], due_diff _ _ _ _ _ _ (by decide) (by decide) (by decide)⟩
  · exact ⟨[], due_thing _ _ _ _ (by decide) (by decide)⟩
theorem due_le (a b : W) (st : Sto) (ha : a.ok) (hb : b.ok) : ∃ g, F_l_due [.str [60, 61], a.d, b.d] st = some (zLe.of a b, st ++ g) := by
  cases a <;> cases b
  · rename_i x y
    exact ⟨[.dic (tellD (decide (x < y)) (x == y))], by simp only [F_l_due, b_l_due, eVar_at, kVar_some, eC_at, eBin_at, k2_some, k3_some, eUn_at, k1_some, kVal_some, kBl_some, kEq_at, kBlN_some, kNe_at, kIn_at, kNotIn_at, kIx_at, ixO_tup, kLt_int, kLe_int, kGt_int, kGe_int, kLt_str, kLe_str, kGt_str, kGe_str, kIs_non, kIs_bl, kIs_int, kIs_str, kIs_tup, kIs_ref, kIsNot_non, kIsNot_bl, kIsNot_int, kIsNot_str, kIsNot_tup, kIsNot_ref, opAdd_int, opAdd_str, opSub_int, opMul_int, opDiv_int, opMod_int, opPow_int, opAnd_int, opOr_int, opNeg_int, eChain_at, kc1_some, kc2_some, kc3_true, kc3_false, kc4_some, tOf_at, kTru_some, kTru2_some, truD_non, truD_bl, truD_int, truD_tup, tAnd_at, kAnd_true, kAnd_false, tOr_at, kOr_true, kOr_false, tNot_at, kNot_some, tYes_at, eAnd_at, keAnd_some, keAnd2_true, keAnd2_false, eOr_at, keOr_some, keOr2_true, keOr2_false, eNot_at, keNot_some, keNot2_some, eIf_at, keIf_true, keIf_false, aNil_at, aCons_at, ka1_some, ka2_some, eTup_at, kTup_0, kTup_1, kTup_2, kTup_3, kTup_4, kTup_5, kTup_6, eLst_at, kLst_0, kLst_1, kLst_2, kLst_3, kLst_4, eDic0_at, eCall_at, kCall_some, o1_at, isiO_at, kIsi_some, tyD_non, tyD_bl, tyD_int, tyD_str, tyD_tup, eBM_at, kbm1_some, kbm2_some, eSl_at, ks2_some, ks3_some, ks4_some, oNone_at, oSome_at, kSome_int, slO_str, sSeq_at, kSeq_nx, kSeq_rt, kSeq_bk, kSeq_ct, sNext_at, sBreak_at, sCont_at, sRetN_at, sRet_at, kRet_some, sExpr_at, kExpr_some, sSet_at, kSet_some, sIf_at, kIf_true, kIf_false, sPar2_k, kPar2_some, sPar3_k, kPar3_some, sAsg_at, kAsg_some, kAsg2_some, mName_at, mTup_2, mTup_3, mCons_at, kmCons_some, mNil_at, sPut_at, kp1_some, kp2_some, kp3_some, kp4_some, kFn_rt, kFn_nx, mkFn_0, mkFn_1, mkFn_2, mkFn_3, mkFn_4, mkFn_5, sWhile_at, List.getElem?_cons_zero, List.getElem?_cons_succ, List.set_cons_zero, List.set_cons_succ, List.replicate_succ, List.replicate_zero, Nat.reduceSub, Bool.not_true, Bool.not_false, ite_true, ite_false, if_true, if_false, reduceCtorEq, eq_str, eq_num, eq_txt, eq_tru, eq_non, eq_thing, eq_pair, in_pairs, in2, in4, atI0, atI1, Sgn.of, zLe, disp_due, ix_due, val_le, le_int, List.cons.injEq, Nat.reduceEqDiff, decide_false, decide_true, and_false, and_true, false_and, true_and, Bool.or_false, Bool.or_true, Bool.true_or, Bool.false_or, Bool.and_true, Bool.and_false, Bool.false_and, Bool.true_and, List.append_nil]⟩
  · exact ⟨[], due_diff _ _ _ _ _ _ (by decide) (by decide) (by decide)⟩
  · exact ⟨[], due_diff _ _ _ _ _ _ (by decide) (by decide) (by decide)⟩
  · exact ⟨[], due_diff _ _ _ _ _ _ (by decide) (by decide) (by decide)⟩
  · exact ⟨[], due_diff _ _ _ _ _ _ (by decide) (by decide) (by decide)⟩
  · exact ⟨[], due_diff _ _ _ _ _ _ (by decide) (by decide) (by decide)⟩
  · rename_i x y
    exact ⟨[.dic (tellD (decide (x < y)) (decide (x = y)))], by simp only [F_l_due, b_l_due, eVar_at, kVar_some, eC_at, eBin_at, k2_some, k3_some, eUn_at, k1_some, kVal_some, kBl_some, kEq_at, kBlN_some, kNe_at, kIn_at, kNotIn_at, kIx_at, ixO_tup, kLt_int, kLe_int, kGt_int, kGe_int, kLt_str, kLe_str, kGt_str, kGe_str, kIs_non, kIs_bl, kIs_int, kIs_str, kIs_tup, kIs_ref, kIsNot_non, kIsNot_bl, kIsNot_int, kIsNot_str, kIsNot_tup, kIsNot_ref, opAdd_int, opAdd_str, opSub_int, opMul_int, opDiv_int, opMod_int, opPow_int, opAnd_int, opOr_int, opNeg_int, eChain_at, kc1_some, kc2_some, kc3_true, kc3_false, kc4_some, tOf_at, kTru_some, kTru2_some, truD_non, truD_bl, truD_int, truD_tup, tAnd_at, kAnd_true, kAnd_false, tOr_at, kOr_true, kOr_false, tNot_at, kNot_some, tYes_at, eAnd_at, keAnd_some, keAnd2_true, keAnd2_false, eOr_at, keOr_some, keOr2_true, keOr2_false, eNot_at, keNot_some, keNot2_some, eIf_at, keIf_true, keIf_false, aNil_at, aCons_at, ka1_some, ka2_some, eTup_at, kTup_0, kTup_1, kTup_2, kTup_3, kTup_4, kTup_5, kTup_6, eLst_at, kLst_0, kLst_1, kLst_2, kLst_3, kLst_4, eDic0_at, eCall_at, kCall_some, o1_at, isiO_at, kIsi_some, tyD_non, tyD_bl, tyD_int, tyD_str, tyD_tup, eBM_at, kbm1_some, kbm2_some, eSl_at, ks2_some, ks3_some, ks4_some, oNone_at, oSome_at, kSome_int, slO_str, sSeq_at, kSeq_nx, kSeq_rt, kSeq_bk, kSeq_ct, sNext_at, sBreak_at, sCont_at, sRetN_at, sRet_at, kRet_some, sExpr_at, kExpr_some, sSet_at, kSet_some, sIf_at, kIf_true, kIf_false, sPar2_k, kPar2_some, sPar3_k, kPar3_some, sAsg_at, kAsg_some, kAsg2_some, mName_at, mTup_2, mTup_3, mCons_at, kmCons_some, mNil_at, sPut_at, kp1_some, kp2_some, kp3_some, kp4_some, kFn_rt, kFn_nx, mkFn_0, mkFn_1, mkFn_2, mkFn_3, mkFn_4, mkFn_5, sWhile_at, List.getElem?_cons_zero, List.getElem?_cons_succ, List.set_cons_zero, List.set_cons_succ, List.replicate_succ, List.replicate_zero, Nat.reduceSub, Bool.not_true, Bool.not_false, ite_true, ite_false, if_true, if_false, reduceCtorEq, eq_str, eq_num, eq_txt, eq_tru, eq_non, eq_thing, eq_pair, in_pairs, in2, in4, atI0, atI1, Sgn.of, zLe, disp_due, ix_due, val_le, le_str, List.cons.injEq, Nat.reduceEqDiff, decide_false, decide_true, and_false, and_true, false_and, true_and, Bool.or_false, Bool.or_true, Bool.true_or, Bool.false_or, Bool.and_true, Bool.and_false, Bool.false_and, Bool.true_and, List.append_nil]⟩
  · exact ⟨[], due_diff _ _ _ _ _ _ (by decide) (by decide) (by decide)⟩
  · exact ⟨[], due_diff _ _ _ _ _ _ (by decide) (by decide) (by decide)⟩
  · exact ⟨[], due_diff _ _ _ _ _ _ (by decide) (by decide) (by decide)⟩
  · exact ⟨[], due_diff _ _ _ _ _ _ (by decide) (by decide) (by decide)⟩
  · exact ⟨[], due_diff _ _ _ _ _ _ (by decide) (by decide) (by decide)⟩
  · exact ⟨[], due_tru _ _ _ _ (by decide) (by decide) (by decide) (by decide)⟩
  · exact ⟨[], due_diff _ _ _ _ _ _ (by decide) (by decide) (by decide)⟩
  · exact ⟨[], due_diff _ _ _ _ _ _ (by decide) (by decide) (by decide)⟩
  · exact ⟨[], due_diff _ _ _ _ _ _ (by decide) (by decide) (by decide)⟩
  · exact ⟨[], due_diff _ _ _ _ _ _ (by decide) (by decide) (by decide)⟩
  · exact ⟨[], due_diff _ _ _ _ _ _ (by decide) (by decide) (by decide)⟩
  · exact ⟨[], due_non _ _ (by decide) (by decide)⟩
  · exact ⟨[], due_diff _ _ _ _ _ _ (by decide) (by decide) (by decide)⟩
  · exact ⟨[], due_diff _ _ _ _ _ _ (by decide) (by decide) (by decide)⟩
  · exact ⟨[], due_diff _ _ _ _ _ _ (by decide) (by decide) (by decide)⟩
  · exact ⟨[], due_diff _ _ _ _ _ _ (by decide) (by decide) (by decide)⟩
  · exact ⟨[], due_diff _ _ _ _ _ _ (by decide) (by decide) (by decide)⟩
  · exact ⟨[], due_thing _ _ _ _ (by decide) (by decide)⟩
theorem due_gt (a b : W) (st : Sto) (ha : a.ok) (hb : b.ok) : ∃ g, F_l_due [.str [62], a.d, b.d] st = some (zGt.of a b, st ++ g) := by
  cases a <;> cases b
  · rename_i x y
    exact ⟨[.dic (tellD (decide (x < y)) (x == y))], by simp only [F_l_due, b_l_due, eVar_at, kVar_some, eC_at, eBin_at, k2_some, k3_some, eUn_at, k1_some, kVal_some, kBl_some, kEq_at, kBlN_some, kNe_at, kIn_at, kNotIn_at, kIx_at, ixO_tup, kLt_int, kLe_int, kGt_int, kGe_int, kLt_str, kLe_str, kGt_str, kGe_str, kIs_non, kIs_bl, kIs_int, kIs_str, kIs_tup, kIs_ref, kIsNot_non, kIsNot_bl, kIsNot_int, kIsNot_str, kIsNot_tup, kIsNot_ref, opAdd_int, opAdd_str, opSub_int, opMul_int, opDiv_int, opMod_int, opPow_int, opAnd_int, opOr_int, opNeg_int, eChain_at, kc1_some, kc2_some, kc3_true, kc3_false, kc4_some, tOf_at, kTru_some, kTru2_some, truD_non, truD_bl, truD_int, truD_tup, tAnd_at, kAnd_true, kAnd_false, tOr_at, kOr_true, kOr_false, tNot_at, kNot_some, tYes_at, eAnd_at, keAnd_some, keAnd2_true, keAnd2_false, eOr_at, keOr_some, keOr2_true, keOr2_false, eNot_at, keNot_some, keNot2_some, eIf_at, keIf_true, keIf_false, aNil_at, aCons_at, ka1_some, ka2_some, eTup_at, kTup_0, kTup_1, kTup_2, kTup_3, kTup_4, kTup_5, kTup_6, eLst_at, kLst_0, kLst_1, kLst_2, kLst_3, kLst_4, eDic0_at, eCall_at, kCall_some, o1_at, isiO_at, kIsi_some, tyD_non, tyD_bl, tyD_int, tyD_str, tyD_tup, eBM_at, kbm1_some, kbm2_some, eSl_at, ks2_some, ks3_some, ks4_some, oNone_at, oSome_at, kSome_int, slO_str, sSeq_at, kSeq_nx, kSeq_rt, kSeq_bk, kSeq_ct, sNext_at, sBreak_at, sCont_at, sRetN_at, sRet_at, kRet_some, sExpr_at, kExpr_some, sSet_at, kSet_some, sIf_at, kIf_true, kIf_false, sPar2_k, kPar2_some, sPar3_k, kPar3_some, sAsg_at, kAsg_some, kAsg2_some, mName_at, mTup_2, mTup_3, mCons_at, kmCons_some, mNil_at, sPut_at, kp1_some, kp2_some, kp3_some, kp4_some, kFn_rt, kFn_nx, mkFn_0, mkFn_1, mkFn_2, mkFn_3, mkFn_4, mkFn_5, sWhile_at, List.getElem?_cons_zero, List.getElem?_cons_succ, List.set_cons_zero, List.set_cons_succ, List.replicate_succ, List.replicate_zero, Nat.reduceSub, Bool.not_true, Bool.not_false, ite_true, ite_false, if_true, if_false, reduceCtorEq, eq_str, eq_num, eq_txt, eq_tru, eq_non, eq_thing, eq_pair, in_pairs, in2, in4, atI0, atI1, Sgn.of, zGt, disp_due, ix_due, val_gt, gt_int, List.cons.injEq, Nat.reduceEqDiff, decide_false, decide_true, and_false, and_true, false_and, true_and, Bool.or_false, Bool.or_true, Bool.true_or, Bool.false_or, Bool.and_true, Bool.and_false, Bool.false_and, Bool.true_and, List.append_nil]⟩
  · exact ⟨[], due_diff _ _ _ _ _ _ (by decide) (by decide) (by decide)⟩
  · exact ⟨[], due_diff _ _ _ _ _ _ (by decide) (by decide) (by decide)⟩
  · exact ⟨[], due_diff _ _ _ _ _ _ (by decide) (by decide) (by decide)⟩
  · exact ⟨[], due_diff _ _ _ _ _ _ (by decide) (by decide) (by decide)⟩
  · exact ⟨[], due_diff _ _ _ _ _ _ (by decide) (by decide) (by decide)⟩
  · rename_i x y
    exact ⟨[.dic (tellD (decide (x < y)) (decide (x = y)))], by simp only [F_l_due, b_l_due, eVar_at, kVar_some, eC_at, eBin_at, k2_some, k3_some, eUn_at, k1_some, kVal_some, kBl_some, kEq_at, kBlN_some, kNe_at, kIn_at, kNotIn_at, kIx_at, ixO_tup, kLt_int, kLe_int, kGt_int, kGe_int, kLt_str, kLe_str, kGt_str, kGe_str, kIs_non, kIs_bl, kIs_int, kIs_str, kIs_tup, kIs_ref, kIsNot_non, kIsNot_bl, kIsNot_int, kIsNot_str, kIsNot_tup, kIsNot_ref, opAdd_int, opAdd_str, opSub_int, opMul_int, opDiv_int, opMod_int, opPow_int, opAnd_int, opOr_int, opNeg_int, eChain_at, kc1_some, kc2_some, kc3_true, kc3_false, kc4_some, tOf_at, kTru_some, kTru2_some, truD_non, truD_bl, truD_int, truD_tup, tAnd_at, kAnd_true, kAnd_false, tOr_at, kOr_true, kOr_false, tNot_at, kNot_some, tYes_at, eAnd_at, keAnd_some, keAnd2_true, keAnd2_false, eOr_at, keOr_some, keOr2_true, keOr2_false, eNot_at, keNot_some, keNot2_some, eIf_at, keIf_true, keIf_false, aNil_at, aCons_at, ka1_some, ka2_some, eTup_at, kTup_0, kTup_1, kTup_2, kTup_3, kTup_4, kTup_5, kTup_6, eLst_at, kLst_0, kLst_1, kLst_2, kLst_3, kLst_4, eDic0_at, eCall_at, kCall_some, o1_at, isiO_at, kIsi_some, tyD_non, tyD_bl, tyD_int, tyD_str, tyD_tup, eBM_at, kbm1_some, kbm2_some, eSl_at, ks2_some, ks3_some, ks4_some, oNone_at, oSome_at, kSome_int, slO_str, sSeq_at, kSeq_nx, kSeq_rt, kSeq_bk, kSeq_ct, sNext_at, sBreak_at, sCont_at, sRetN_at, sRet_at, kRet_some, sExpr_at, kExpr_some, sSet_at, kSet_some, sIf_at, kIf_true, kIf_false, sPar2_k, kPar2_some, sPar3_k, kPar3_some, sAsg_at, kAsg_some, kAsg2_some, mName_at, mTup_2, mTup_3, mCons_at, kmCons_some, mNil_at, sPut_at, kp1_some, kp2_some, kp3_some, kp4_some, kFn_rt, kFn_nx, mkFn_0, mkFn_1, mkFn_2, mkFn_3, mkFn_4, mkFn_5, sWhile_at, List.getElem?_cons_zero, List.getElem?_cons_succ, List.set_cons_zero, List.set_cons_succ, List.replicate_succ, List.replicate_zero, Nat.reduceSub, Bool.not_true, Bool.not_false, ite_true, ite_false, if_true, if_false, reduceCtorEq, eq_str, eq_num, eq_txt, eq_tru, eq_non, eq_thing, eq_pair, in_pairs, in2, in4, atI0, atI1, Sgn.of, zGt, disp_due, ix_due, val_gt, gt_str, List.cons.injEq, Nat.reduceEqDiff, decide_false, decide_true, and_false, and_true, false_and, true_and, Bool.or_false, Bool.or_true, Bool.true_or, Bool.false_or, Bool.and_true, Bool.and_false, Bool.false_and, Bool.true_and, List.append_nil]⟩
  · exact ⟨[], due_diff _ _ _ _ _ _ (by decide) (by decide) (by decide)⟩
  · exact ⟨[], due_diff _ _ _ _ _ _ (by decide) (by decide) (by decide)⟩
  · exact ⟨[], due_diff _ _ _ _ _ _ (by decide) (by decide) (by decide)⟩
  · exact ⟨[], due_diff _ _ _ _ _ _ (by decide) (by decide) (by decide)⟩
  · exact ⟨[], due_diff _ _ _ _ _ _ (by decide) (by decide) (by decide)⟩
  · exact ⟨[], due_tru _ _ _ _ (by decide) (by decide) (by decide) (by decide)⟩
  · exact ⟨[], due_diff _ _ _ _ _ _ (by decide) (by decide) (by decide)⟩
  · exact ⟨[], due_diff _ _ _ _ _ _ (by decide) (by decide) (by decide)⟩
  · exact ⟨[], due_diff _ _ _ _ _ _ (by decide) (by decide) (by decide)⟩
  · exact ⟨[], due_diff _ _ _ _ _ _ (by decide) (by decide) (by decide)⟩
  · exact ⟨[], due_diff _ _ _ _ _ _ (by decide) (by decide) (by decide)⟩
  · exact ⟨[], due_non _ _ (by decide) (by decide)⟩
  · exact ⟨[], due_diff _ _ _ _ _ _ (by decide) (by decide) (by decide)⟩
  · exact ⟨[], due_diff _ _ _ _ _ _ (by decide) (by decide) (by decide)⟩
  · exact ⟨[], due_diff _ _ _ _ _ _ (by decide) (by decide) (by decide)⟩
  · exact ⟨[], due_diff _ _ _ _ _ _ (by decide) (by decide) (by decide)⟩
  · exact ⟨[], due_diff _ _ _ _ _ _ (by decide) (by decide) (by decide)⟩
  · exact ⟨[], due_thing _ _ _ _ (by decide) (by decide)⟩
theorem due_ge (a b : W) (st : Sto) (ha : a.ok) (hb : b.ok) : ∃ g, F_l_due [.str [62, 61], a.d, b.d] st = some (zGe.of a b, st ++ g) := by
  cases a <;> cases b
  · rename_i x y
    exact ⟨[.dic (tellD (decide (x < y)) (x == y))], by simp only [F_l_due, b_l_due, eVar_at, kVar_some, eC_at, eBin_at, k2_some, k3_some, eUn_at, k1_some, kVal_some, kBl_some, kEq_at, kBlN_some, kNe_at, kIn_at, kNotIn_at, kIx_at, ixO_tup, kLt_int, kLe_int, kGt_int, kGe_int, kLt_str, kLe_str, kGt_str, kGe_str, kIs_non, kIs_bl, kIs_int, kIs_str, kIs_tup, kIs_ref, kIsNot_non, kIsNot_bl, kIsNot_int, kIsNot_str, kIsNot_tup, kIsNot_ref, opAdd_int, opAdd_str, opSub_int, opMul_int, opDiv_int, opMod_int, opPow_int, opAnd_int, opOr_int, opNeg_int, eChain_at, kc1_some, kc2_some, kc3_true, kc3_false, kc4_some, tOf_at, kTru_some, kTru2_some, truD_non, truD_bl, truD_int, truD_tup, tAnd_at, kAnd_true, kAnd_false, tOr_at, kOr_true, kOr_false, tNot_at, kNot_some, tYes_at, eAnd_at, keAnd_some, keAnd2_true, keAnd2_false, eOr_at, keOr_some, keOr2_true, keOr2_false, eNot_at, keNot_some, keNot2_some, eIf_at, keIf_true, keIf_false, aNil_at, aCons_at, ka1_some, ka2_some, eTup_at, kTup_0, kTup_1, kTup_2, kTup_3, kTup_4, kTup_5, kTup_6, eLst_at, kLst_0, kLst_1, kLst_2, kLst_3, kLst_4, eDic0_at, eCall_at, kCall_some, o1_at, isiO_at, kIsi_some, tyD_non, tyD_bl, tyD_int, tyD_str, tyD_tup, eBM_at, kbm1_some, kbm2_some, eSl_at, ks2_some, ks3_some, ks4_some, oNone_at, oSome_at, kSome_int, slO_str, sSeq_at, kSeq_nx, kSeq_rt, kSeq_bk, kSeq_ct, sNext_at, sBreak_at, sCont_at, sRetN_at, sRet_at, kRet_some, sExpr_at, kExpr_some, sSet_at, kSet_some, sIf_at, kIf_true, kIf_false, sPar2_k, kPar2_some, sPar3_k, kPar3_some, sAsg_at, kAsg_some, kAsg2_some, mName_at, mTup_2, mTup_3, mCons_at, kmCons_some, mNil_at, sPut_at, kp1_some, kp2_some, kp3_some, kp4_some, kFn_rt, kFn_nx, mkFn_0, mkFn_1, mkFn_2, mkFn_3, mkFn_4, mkFn_5, sWhile_at, List.getElem?_cons_zero, List.getElem?_cons_succ, List.set_cons_zero, List.set_cons_succ, List.replicate_succ, List.replicate_zero, Nat.reduceSub, Bool.not_true, Bool.not_false, ite_true, ite_false, if_true, if_false, reduceCtorEq, eq_str, eq_num, eq_txt, eq_tru, eq_non, eq_thing, eq_pair, in_pairs, in2, in4, atI0, atI1, Sgn.of, zGe, disp_due, ix_due, val_ge, ge_int, List.cons.injEq, Nat.reduceEqDiff, decide_false, decide_true, and_false, and_true, false_and, true_and, Bool.or_false, Bool.or_true, Bool.true_or, Bool.false_or, Bool.and_true, Bool.and_false, Bool.false_and, Bool.true_and, List.append_nil]⟩
  · exact ⟨[], due_diff _ _ _ _ _ _ (by decide) (by decide) (by decide)⟩
  · exact ⟨[], due_diff _ _ _ _ _ _ (by decide) (by decide) (by decide)⟩
  · exact ⟨[], due_diff _ _ _ _ _ _ (by decide) (by decide) (by decide)⟩
  · exact ⟨[], due_diff _ _ _ _ _ _ (by decide) (by decide) (by decide)⟩
  · exact ⟨[], due_diff _ _ _ _ _ _ (by decide) (by decide) (by decide)⟩
  · rename_i x y
    exact ⟨[.dic (tellD (decide (x < y)) (decide (x = y)))], by simp only [F_l_due, b_l_due, eVar_at, kVar_some, eC_at, eBin_at, k2_some, k3_some, eUn_at, k1_some, kVal_some, kBl_some, kEq_at, kBlN_some, kNe_at, kIn_at, kNotIn_at, kIx_at, ixO_tup, kLt_int, kLe_int, kGt_int, kGe_int, kLt_str, kLe_str, kGt_str, kGe_str, kIs_non, kIs_bl, kIs_int, kIs_str, kIs_tup, kIs_ref, kIsNot_non, kIsNot_bl, kIsNot_int, kIsNot_str, kIsNot_tup, kIsNot_ref, opAdd_int, opAdd_str, opSub_int, opMul_int, opDiv_int, opMod_int, opPow_int, opAnd_int, opOr_int, opNeg_int, eChain_at, kc1_some, kc2_some, kc3_true, kc3_false, kc4_some, tOf_at, kTru_some, kTru2_some, truD_non, truD_bl, truD_int, truD_tup, tAnd_at, kAnd_true, kAnd_false, tOr_at, kOr_true, kOr_false, tNot_at, kNot_some, tYes_at, eAnd_at, keAnd_some, keAnd2_true, keAnd2_false, eOr_at, keOr_some, keOr2_true, keOr2_false, eNot_at, keNot_some, keNot2_some, eIf_at, keIf_true, keIf_false, aNil_at, aCons_at, ka1_some, ka2_some, eTup_at, kTup_0, kTup_1, kTup_2, kTup_3, kTup_4, kTup_5, kTup_6, eLst_at, kLst_0, kLst_1, kLst_2, kLst_3, kLst_4, eDic0_at, eCall_at, kCall_some, o1_at, isiO_at, kIsi_some, tyD_non, tyD_bl, tyD_int, tyD_str, tyD_tup, eBM_at, kbm1_some, kbm2_some, eSl_at, ks2_some, ks3_some, ks4_some, oNone_at, oSome_at, kSome_int, slO_str, sSeq_at, kSeq_nx, kSeq_rt, kSeq_bk, kSeq_ct, sNext_at, sBreak_at, sCont_at, sRetN_at, sRet_at, kRet_some, sExpr_at, kExpr_some, sSet_at, kSet_some, sIf_at, kIf_true, kIf_false, sPar2_k, kPar2_some, sPar3_k, kPar3_some, sAsg_at, kAsg_some, kAsg2_some, mName_at, mTup_2, mTup_3, mCons_at, kmCons_some, mNil_at, sPut_at, kp1_some, kp2_some, kp3_some, kp4_some, kFn_rt, kFn_nx, mkFn_0, mkFn_1, mkFn_2, mkFn_3, mkFn_4, mkFn_5, sWhile_at, List.getElem?_cons_zero, List.getElem?_cons_succ, List.set_cons_zero, List.set_cons_succ, List.replicate_succ, List.replicate_zero, Nat.reduceSub, Bool.not_true, Bool.not_false, ite_true, ite_false, if_true, if_false, reduceCtorEq, eq_str, eq_num, eq_txt, eq_tru, eq_non, eq_thing, eq_pair, in_pairs, in2, in4, atI0, atI1, Sgn.of, zGe, disp_due, ix_due, val_ge, List.cons.injEq, Nat.reduceEqDiff, decide_false, decide_true, and_false, and_true, false_and, true_and, Bool.or_false, Bool.or_true, Bool.true_or, Bool.false_or, Bool.and_true, Bool.and_false, Bool.false_and, Bool.true_and, List.append_nil]⟩
  · exact ⟨[], due_diff _ _ _ _ _ _ (by decide) (by decide) (by decide)⟩
  · exact ⟨[], due_diff _ _ _ _ _ _ (by decide) (by decide) (by decide)⟩
  · exact ⟨[], due_diff _ _ _ _ _ _ (by decide) (by decide) (by decide)⟩
  · exact ⟨[], due_diff _ _ _ _ _ _ (by decide) (by decide) (by decide)⟩
  · exact ⟨[], due_diff _ _ _ _ _ _ (by decide) (by decide) (by decide)⟩
  · exact ⟨[], due_tru _ _ _ _ (by decide) (by decide) (by decide) (by decide)⟩
  · exact ⟨[], due_diff _ _ _ _ _ _ (by decide) (by decide) (by decide)⟩
  · exact ⟨[], due_diff _ _ _ _ _ _ (by decide) (by decide) (by decide)⟩
  · exact ⟨[], due_diff _ _ _ _ _ _ (by decide) (by decide) (by decide)⟩
  · exact ⟨[], due_diff _ _ _ _ _ _ (by decide) (by decide) (by decide)⟩
  · exact ⟨[], due_diff _ _ _ _ _ _ (by decide) (by decide) (by decide)⟩
  · exact ⟨[], due_non _ _ (by decide) (by decide)⟩
  · exact ⟨[], due_diff _ _ _ _ _ _ (by decide) (by decide) (by decide)⟩
  · exact ⟨[], due_diff _ _ _ _ _ _ (by decide) (by decide) (by decide)⟩
  · exact ⟨[], due_diff _ _ _ _ _ _ (by decide) (by decide) (by decide)⟩
  · exact ⟨[], due_diff _ _ _ _ _ _ (by decide) (by decide) (by decide)⟩
  · exact ⟨[], due_diff _ _ _ _ _ _ (by decide) (by decide) (by decide)⟩
  · exact ⟨[], due_thing _ _ _ _ (by decide) (by decide)⟩
end Math

set_option maxRecDepth 100000
set_option maxHeartbeats 4000000
namespace Math
open MP Text PySem
theorem isa_c1 : ([Ty.lst, Ty.tup].any fun n => Ty.tup.isa n) = true := by decide
theorem isa_c2 : ([Ty.lst].any fun n => Ty.tup.isa n) = false := by decide
theorem isa_c3 : ([Ty.tup].any fun n => Ty.tup.isa n) = true := by decide
theorem isa_c4 : ([Ty.lst, Ty.tup].any fun n => Ty.int.isa n) = false := by decide
theorem isa_c5 : ([Ty.lst, Ty.tup].any fun n => Ty.str.isa n) = false := by decide
theorem isa_c6 : ([Ty.lst, Ty.tup].any fun n => Ty.bl.isa n) = false := by decide
theorem isa_c7 : ([Ty.lst, Ty.tup].any fun n => Ty.non.isa n) = false := by decide
theorem isa_d4 : ([Ty.bl].any fun n => Ty.int.isa n) = false := by decide
theorem isa_d5 : ([Ty.bl].any fun n => Ty.str.isa n) = false := by decide
theorem isa_d6 : ([Ty.bl].any fun n => Ty.bl.isa n) = true := by decide
theorem isa_d7 : ([Ty.bl].any fun n => Ty.non.isa n) = false := by decide
theorem same_pure : ∀ (n : Nat) (d : D) (st : Sto), PD n d → ∃ g, F_l_same n [d, d] st = some (.bl true, st ++ g)
  | 0, _, _, h => h.elim
  | n + 1, .int i, st, _ => ⟨[], by simp only [F_l_same, b_l_same, eVar_at, kVar_some, eC_at, eBin_at, k2_some, k3_some, eUn_at, k1_some, kVal_some, kBl_some, kEq_at, kBlN_some, kNe_at, kIn_at, kNotIn_at, kIx_at, ixO_tup, kLt_int, kLe_int, kGt_int, kGe_int, kLt_str, kLe_str, kGt_str, kGe_str, kIs_non, kIs_bl, kIs_int, kIs_str, kIs_tup, kIs_ref, kIsNot_non, kIsNot_bl, kIsNot_int, kIsNot_str, kIsNot_tup, kIsNot_ref, opAdd_int, opAdd_str, opSub_int, opMul_int, opDiv_int, opMod_int, opPow_int, opAnd_int, opOr_int, opNeg_int, eChain_at, kc1_some, kc2_some, kc3_true, kc3_false, kc4_some, tOf_at, kTru_some, kTru2_some, truD_non, truD_bl, truD_int, truD_tup, tAnd_at, kAnd_true, kAnd_false, tOr_at, kOr_true, kOr_false, tNot_at, kNot_some, tYes_at, eAnd_at, keAnd_some, keAnd2_true, keAnd2_false, eOr_at, keOr_some, keOr2_true, keOr2_false, eNot_at, keNot_some, keNot2_some, eIf_at, keIf_true, keIf_false, aNil_at, aCons_at, ka1_some, ka2_some, eTup_at, kTup_0, kTup_1, kTup_2, kTup_3, kTup_4, kTup_5, kTup_6, eLst_at, kLst_0, kLst_1, kLst_2, kLst_3, kLst_4, eDic0_at, eCall_at, kCall_some, o1_at, isiO_at, kIsi_some, tyD_non, tyD_bl, tyD_int, tyD_str, tyD_tup, eBM_at, kbm1_some, kbm2_some, eSl_at, ks2_some, ks3_some, ks4_some, oNone_at, oSome_at, kSome_int, slO_str, sSeq_at, kSeq_nx, kSeq_rt, kSeq_bk, kSeq_ct, sNext_at, sBreak_at, sCont_at, sRetN_at, sRet_at, kRet_some, sExpr_at, kExpr_some, sSet_at, kSet_some, sIf_at, kIf_true, kIf_false, sPar2_k, kPar2_some, sPar3_k, kPar3_some, sAsg_at, kAsg_some, kAsg2_some, mName_at, mTup_2, mTup_3, mCons_at, kmCons_some, mNil_at, sPut_at, kp1_some, kp2_some, kp3_some, kp4_some, kFn_rt, kFn_nx, mkFn_0, mkFn_1, mkFn_2, mkFn_3, mkFn_4, mkFn_5, sWhile_at, List.getElem?_cons_zero, List.getElem?_cons_succ, List.set_cons_zero, List.set_cons_succ, List.replicate_succ, List.replicate_zero, Nat.reduceSub, Bool.not_true, Bool.not_false, ite_true, ite_false, if_true, if_false, reduceCtorEq, isa_c4, isa_d4, eqO_bl, eqO_int, beq_self_eq_true, List.append_nil]⟩
  | n + 1, .str i, st, _ => ⟨[], by simp only [F_l_same, b_l_same, eVar_at, kVar_some, eC_at, eBin_at, k2_some, k3_some, eUn_at, k1_some, kVal_some, kBl_some, kEq_at, kBlN_some, kNe_at, kIn_at, kNotIn_at, kIx_at, ixO_tup, kLt_int, kLe_int, kGt_int, kGe_int, kLt_str, kLe_str, kGt_str, kGe_str, kIs_non, kIs_bl, kIs_int, kIs_str, kIs_tup, kIs_ref, kIsNot_non, kIsNot_bl, kIsNot_int, kIsNot_str, kIsNot_tup, kIsNot_ref, opAdd_int, opAdd_str, opSub_int, opMul_int, opDiv_int, opMod_int, opPow_int, opAnd_int, opOr_int, opNeg_int, eChain_at, kc1_some, kc2_some, kc3_true, kc3_false, kc4_some, tOf_at, kTru_some, kTru2_some, truD_non, truD_bl, truD_int, truD_tup, tAnd_at, kAnd_true, kAnd_false, tOr_at, kOr_true, kOr_false, tNot_at, kNot_some, tYes_at, eAnd_at, keAnd_some, keAnd2_true, keAnd2_false, eOr_at, keOr_some, keOr2_true, keOr2_false, eNot_at, keNot_some, keNot2_some, eIf_at, keIf_true, keIf_false, aNil_at, aCons_at, ka1_some, ka2_some, eTup_at, kTup_0, kTup_1, kTup_2, kTup_3, kTup_4, kTup_5, kTup_6, eLst_at, kLst_0, kLst_1, kLst_2, kLst_3, kLst_4, eDic0_at, eCall_at, kCall_some, o1_at, isiO_at, kIsi_some, tyD_non, tyD_bl, tyD_int, tyD_str, tyD_tup, eBM_at, kbm1_some, kbm2_some, eSl_at, ks2_some, ks3_some, ks4_some, oNone_at, oSome_at, kSome_int, slO_str, sSeq_at, kSeq_nx, kSeq_rt, kSeq_bk, kSeq_ct, sNext_at, sBreak_at, sCont_at, sRetN_at, sRet_at, kRet_some, sExpr_at, kExpr_some, sSet_at, kSet_some, sIf_at, kIf_true, kIf_false, sPar2_k, kPar2_some, sPar3_k, kPar3_some, sAsg_at, kAsg_some, kAsg2_some, mName_at, mTup_2, mTup_3, mCons_at, kmCons_some, mNil_at, sPut_at, kp1_some, kp2_some, kp3_some, kp4_some, kFn_rt, kFn_nx, mkFn_0, mkFn_1, mkFn_2, mkFn_3, mkFn_4, mkFn_5, sWhile_at, List.getElem?_cons_zero, List.getElem?_cons_succ, List.set_cons_zero, List.set_cons_succ, List.replicate_succ, List.replicate_zero, Nat.reduceSub, Bool.not_true, Bool.not_false, ite_true, ite_false, if_true, if_false, reduceCtorEq, isa_c5, isa_d5, eqO_bl, eqO_str_self, beq_self_eq_true, List.append_nil]⟩
  | n + 1, .bl i, st, _ => ⟨[], by simp only [F_l_same, b_l_same, eVar_at, kVar_some, eC_at, eBin_at, k2_some, k3_some, eUn_at, k1_some, kVal_some, kBl_some, kEq_at, kBlN_some, kNe_at, kIn_at, kNotIn_at, kIx_at, ixO_tup, kLt_int, kLe_int, kGt_int, kGe_int, kLt_str, kLe_str, kGt_str, kGe_str, kIs_non, kIs_bl, kIs_int, kIs_str, kIs_tup, kIs_ref, kIsNot_non, kIsNot_bl, kIsNot_int, kIsNot_str, kIsNot_tup, kIsNot_ref, opAdd_int, opAdd_str, opSub_int, opMul_int, opDiv_int, opMod_int, opPow_int, opAnd_int, opOr_int, opNeg_int, eChain_at, kc1_some, kc2_some, kc3_true, kc3_false, kc4_some, tOf_at, kTru_some, kTru2_some, truD_non, truD_bl, truD_int, truD_tup, tAnd_at, kAnd_true, kAnd_false, tOr_at, kOr_true, kOr_false, tNot_at, kNot_some, tYes_at, eAnd_at, keAnd_some, keAnd2_true, keAnd2_false, eOr_at, keOr_some, keOr2_true, keOr2_false, eNot_at, keNot_some, keNot2_some, eIf_at, keIf_true, keIf_false, aNil_at, aCons_at, ka1_some, ka2_some, eTup_at, kTup_0, kTup_1, kTup_2, kTup_3, kTup_4, kTup_5, kTup_6, eLst_at, kLst_0, kLst_1, kLst_2, kLst_3, kLst_4, eDic0_at, eCall_at, kCall_some, o1_at, isiO_at, kIsi_some, tyD_non, tyD_bl, tyD_int, tyD_str, tyD_tup, eBM_at, kbm1_some, kbm2_some, eSl_at, ks2_some, ks3_some, ks4_some, oNone_at, oSome_at, kSome_int, slO_str, sSeq_at, kSeq_nx, kSeq_rt, kSeq_bk, kSeq_ct, sNext_at, sBreak_at, sCont_at, sRetN_at, sRet_at, kRet_some, sExpr_at, kExpr_some, sSet_at, kSet_some, sIf_at, kIf_true, kIf_false, sPar2_k, kPar2_some, sPar3_k, kPar3_some, sAsg_at, kAsg_some, kAsg2_some, mName_at, mTup_2, mTup_3, mCons_at, kmCons_some, mNil_at, sPut_at, kp1_some, kp2_some, kp3_some, kp4_some, kFn_rt, kFn_nx, mkFn_0, mkFn_1, mkFn_2, mkFn_3, mkFn_4, mkFn_5, sWhile_at, List.getElem?_cons_zero, List.getElem?_cons_succ, List.set_cons_zero, List.set_cons_succ, List.replicate_succ, List.replicate_zero, Nat.reduceSub, Bool.not_true, Bool.not_false, ite_true, ite_false, if_true, if_false, reduceCtorEq, isa_c6, isa_d6, eqO_bl, beq_self_eq_true, List.append_nil]⟩
  | n + 1, .non, st, _ => ⟨[], by simp only [F_l_same, b_l_same, eVar_at, kVar_some, eC_at, eBin_at, k2_some, k3_some, eUn_at, k1_some, kVal_some, kBl_some, kEq_at, kBlN_some, kNe_at, kIn_at, kNotIn_at, kIx_at, ixO_tup, kLt_int, kLe_int, kGt_int, kGe_int, kLt_str, kLe_str, kGt_str, kGe_str, kIs_non, kIs_bl, kIs_int, kIs_str, kIs_tup, kIs_ref, kIsNot_non, kIsNot_bl, kIsNot_int, kIsNot_str, kIsNot_tup, kIsNot_ref, opAdd_int, opAdd_str, opSub_int, opMul_int, opDiv_int, opMod_int, opPow_int, opAnd_int, opOr_int, opNeg_int, eChain_at, kc1_some, kc2_some, kc3_true, kc3_false, kc4_some, tOf_at, kTru_some, kTru2_some, truD_non, truD_bl, truD_int, truD_tup, tAnd_at, kAnd_true, kAnd_false, tOr_at, kOr_true, kOr_false, tNot_at, kNot_some, tYes_at, eAnd_at, keAnd_some, keAnd2_true, keAnd2_false, eOr_at, keOr_some, keOr2_true, keOr2_false, eNot_at, keNot_some, keNot2_some, eIf_at, keIf_true, keIf_false, aNil_at, aCons_at, ka1_some, ka2_some, eTup_at, kTup_0, kTup_1, kTup_2, kTup_3, kTup_4, kTup_5, kTup_6, eLst_at, kLst_0, kLst_1, kLst_2, kLst_3, kLst_4, eDic0_at, eCall_at, kCall_some, o1_at, isiO_at, kIsi_some, tyD_non, tyD_bl, tyD_int, tyD_str, tyD_tup, eBM_at, kbm1_some, kbm2_some, eSl_at, ks2_some, ks3_some, ks4_some, oNone_at, oSome_at, kSome_int, slO_str, sSeq_at, kSeq_nx, kSeq_rt, kSeq_bk, kSeq_ct, sNext_at, sBreak_at, sCont_at, sRetN_at, sRet_at, kRet_some, sExpr_at, kExpr_some, sSet_at, kSet_some, sIf_at, kIf_true, kIf_false, sPar2_k, kPar2_some, sPar3_k, kPar3_some, sAsg_at, kAsg_some, kAsg2_some, mName_at, mTup_2, mTup_3, mCons_at, kmCons_some, mNil_at, sPut_at, kp1_some, kp2_some, kp3_some, kp4_some, kFn_rt, kFn_nx, mkFn_0, mkFn_1, mkFn_2, mkFn_3, mkFn_4, mkFn_5, sWhile_at, List.getElem?_cons_zero, List.getElem?_cons_succ, List.set_cons_zero, List.set_cons_succ, List.replicate_succ, List.replicate_zero, Nat.reduceSub, Bool.not_true, Bool.not_false, ite_true, ite_false, if_true, if_false, reduceCtorEq, isa_c7, isa_d7, eqO_bl, eqO_non, beq_self_eq_true, List.append_nil]⟩
  | n + 1, .ref _, st, h => h.elim
  | n + 1, .tup ds, st, h => by
    obtain ⟨hl, hd⟩ := h
    have e : ∃ g', eLc [2] (iR1 (aCons (eCall (o1 lenO) (aCons (eVar 1) aNil)) aNil)) (mName 2) tYesM (eC_l_same_1 (F_l_same n)) [some (.tup ds), some (.tup ds), none] st = some (.ref st.length, st ++ .lst ((rngD 0 ds.length).map fun _ => D.bl true) :: g') := by
      refine eLc_grow (by simp only [eVar_at, kVar_some, eC_at, eBin_at, k2_some, k3_some, eUn_at, k1_some, kVal_some, kBl_some, kEq_at, kBlN_some, kNe_at, kIn_at, kNotIn_at, kIx_at, ixO_tup, kLt_int, kLe_int, kGt_int, kGe_int, kLt_str, kLe_str, kGt_str, kGe_str, kIs_non, kIs_bl, kIs_int, kIs_str, kIs_tup, kIs_ref, kIsNot_non, kIsNot_bl, kIsNot_int, kIsNot_str, kIsNot_tup, kIsNot_ref, opAdd_int, opAdd_str, opSub_int, opMul_int, opDiv_int, opMod_int, opPow_int, opAnd_int, opOr_int, opNeg_int, eChain_at, kc1_some, kc2_some, kc3_true, kc3_false, kc4_some, tOf_at, kTru_some, kTru2_some, truD_non, truD_bl, truD_int, truD_tup, tAnd_at, kAnd_true, kAnd_false, tOr_at, kOr_true, kOr_false, tNot_at, kNot_some, tYes_at, eAnd_at, keAnd_some, keAnd2_true, keAnd2_false, eOr_at, keOr_some, keOr2_true, keOr2_false, eNot_at, keNot_some, keNot2_some, eIf_at, keIf_true, keIf_false, aNil_at, aCons_at, ka1_some, ka2_some, eTup_at, kTup_0, kTup_1, kTup_2, kTup_3, kTup_4, kTup_5, kTup_6, eLst_at, kLst_0, kLst_1, kLst_2, kLst_3, kLst_4, eDic0_at, eCall_at, kCall_some, o1_at, isiO_at, kIsi_some, tyD_non, tyD_bl, tyD_int, tyD_str, tyD_tup, eBM_at, kbm1_some, kbm2_some, eSl_at, ks2_some, ks3_some, ks4_some, oNone_at, oSome_at, kSome_int, slO_str, sSeq_at, kSeq_nx, kSeq_rt, kSeq_bk, kSeq_ct, sNext_at, sBreak_at, sCont_at, sRetN_at, sRet_at, kRet_some, sExpr_at, kExpr_some, sSet_at, kSet_some, sIf_at, kIf_true, kIf_false, sPar2_k, kPar2_some, sPar3_k, kPar3_some, sAsg_at, kAsg_some, kAsg2_some, mName_at, mTup_2, mTup_3, mCons_at, kmCons_some, mNil_at, sPut_at, kp1_some, kp2_some, kp3_some, kp4_some, kFn_rt, kFn_nx, mkFn_0, mkFn_1, mkFn_2, mkFn_3, mkFn_4, mkFn_5, sWhile_at, List.getElem?_cons_zero, List.getElem?_cons_succ, List.set_cons_zero, List.set_cons_succ, List.replicate_succ, List.replicate_zero, Nat.reduceSub, Bool.not_true, Bool.not_false, ite_true, ite_false, if_true, if_false, reduceCtorEq, lenO_tup, iR1_at, kR1_some hl]) (by rw [rngD_length]; exact hl) fun d hx acc g => ?_
      obtain ⟨k, hk, rfl⟩ := rngD_mem hx
      obtain ⟨x, ex⟩ : ∃ x, ds[k]? = some x := ⟨ds[k], List.getElem?_eq_getElem hk⟩
      obtain ⟨g', e2⟩ := same_pure n x (st ++ .lst acc :: g) (hd x (List.mem_of_getElem? ex))
      refine ⟨_, g', rfl, ?_⟩
      simp only [eC_l_same_1, wipeD, eVar_at, kVar_some, eC_at, eBin_at, k2_some, k3_some, eUn_at, k1_some, kVal_some, kBl_some, kEq_at, kBlN_some, kNe_at, kIn_at, kNotIn_at, kIx_at, ixO_tup, kLt_int, kLe_int, kGt_int, kGe_int, kLt_str, kLe_str, kGt_str, kGe_str, kIs_non, kIs_bl, kIs_int, kIs_str, kIs_tup, kIs_ref, kIsNot_non, kIsNot_bl, kIsNot_int, kIsNot_str, kIsNot_tup, kIsNot_ref, opAdd_int, opAdd_str, opSub_int, opMul_int, opDiv_int, opMod_int, opPow_int, opAnd_int, opOr_int, opNeg_int, eChain_at, kc1_some, kc2_some, kc3_true, kc3_false, kc4_some, tOf_at, kTru_some, kTru2_some, truD_non, truD_bl, truD_int, truD_tup, tAnd_at, kAnd_true, kAnd_false, tOr_at, kOr_true, kOr_false, tNot_at, kNot_some, tYes_at, eAnd_at, keAnd_some, keAnd2_true, keAnd2_false, eOr_at, keOr_some, keOr2_true, keOr2_false, eNot_at, keNot_some, keNot2_some, eIf_at, keIf_true, keIf_false, aNil_at, aCons_at, ka1_some, ka2_some, eTup_at, kTup_0, kTup_1, kTup_2, kTup_3, kTup_4, kTup_5, kTup_6, eLst_at, kLst_0, kLst_1, kLst_2, kLst_3, kLst_4, eDic0_at, eCall_at, kCall_some, o1_at, isiO_at, kIsi_some, tyD_non, tyD_bl, tyD_int, tyD_str, tyD_tup, eBM_at, kbm1_some, kbm2_some, eSl_at, ks2_some, ks3_some, ks4_some, oNone_at, oSome_at, kSome_int, slO_str, sSeq_at, kSeq_nx, kSeq_rt, kSeq_bk, kSeq_ct, sNext_at, sBreak_at, sCont_at, sRetN_at, sRet_at, kRet_some, sExpr_at, kExpr_some, sSet_at, kSet_some, sIf_at, kIf_true, kIf_false, sPar2_k, kPar2_some, sPar3_k, kPar3_some, sAsg_at, kAsg_some, kAsg2_some, mName_at, mTup_2, mTup_3, mCons_at, kmCons_some, mNil_at, sPut_at, kp1_some, kp2_some, kp3_some, kp4_some, kFn_rt, kFn_nx, mkFn_0, mkFn_1, mkFn_2, mkFn_3, mkFn_4, mkFn_5, sWhile_at, List.getElem?_cons_zero, List.getElem?_cons_succ, List.set_cons_zero, List.set_cons_succ, List.replicate_succ, List.replicate_zero, Nat.reduceSub, Bool.not_true, Bool.not_false, ite_true, ite_false, if_true, if_false, reduceCtorEq, L2.atI_nat ex, e2, List.append_assoc, List.cons_append]
    obtain ⟨g', e⟩ := e
    refine ⟨.lst ((rngD 0 ds.length).map fun _ => D.bl true) :: g', ?_⟩
    have e3 : ((rngD 0 ds.length).map fun _ => true).all id = true := by simp
    simp only [F_l_same, b_l_same, eVar_at, kVar_some, eC_at, eBin_at, k2_some, k3_some, eUn_at, k1_some, kVal_some, kBl_some, kEq_at, kBlN_some, kNe_at, kIn_at, kNotIn_at, kIx_at, ixO_tup, kLt_int, kLe_int, kGt_int, kGe_int, kLt_str, kLe_str, kGt_str, kGe_str, kIs_non, kIs_bl, kIs_int, kIs_str, kIs_tup, kIs_ref, kIsNot_non, kIsNot_bl, kIsNot_int, kIsNot_str, kIsNot_tup, kIsNot_ref, opAdd_int, opAdd_str, opSub_int, opMul_int, opDiv_int, opMod_int, opPow_int, opAnd_int, opOr_int, opNeg_int, eChain_at, kc1_some, kc2_some, kc3_true, kc3_false, kc4_some, tOf_at, kTru_some, kTru2_some, truD_non, truD_bl, truD_int, truD_tup, tAnd_at, kAnd_true, kAnd_false, tOr_at, kOr_true, kOr_false, tNot_at, kNot_some, tYes_at, eAnd_at, keAnd_some, keAnd2_true, keAnd2_false, eOr_at, keOr_some, keOr2_true, keOr2_false, eNot_at, keNot_some, keNot2_some, eIf_at, keIf_true, keIf_false, aNil_at, aCons_at, ka1_some, ka2_some, eTup_at, kTup_0, kTup_1, kTup_2, kTup_3, kTup_4, kTup_5, kTup_6, eLst_at, kLst_0, kLst_1, kLst_2, kLst_3, kLst_4, eDic0_at, eCall_at, kCall_some, o1_at, isiO_at, kIsi_some, tyD_non, tyD_bl, tyD_int, tyD_str, tyD_tup, eBM_at, kbm1_some, kbm2_some, eSl_at, ks2_some, ks3_some, ks4_some, oNone_at, oSome_at, kSome_int, slO_str, sSeq_at, kSeq_nx, kSeq_rt, kSeq_bk, kSeq_ct, sNext_at, sBreak_at, sCont_at, sRetN_at, sRet_at, kRet_some, sExpr_at, kExpr_some, sSet_at, kSet_some, sIf_at, kIf_true, kIf_false, sPar2_k, kPar2_some, sPar3_k, kPar3_some, sAsg_at, kAsg_some, kAsg2_some, mName_at, mTup_2, mTup_3, mCons_at, kmCons_some, mNil_at, sPut_at, kp1_some, kp2_some, kp3_some, kp4_some, kFn_rt, kFn_nx, mkFn_0, mkFn_1, mkFn_2, mkFn_3, mkFn_4, mkFn_5, sWhile_at, List.getElem?_cons_zero, List.getElem?_cons_succ, List.set_cons_zero, List.set_cons_succ, List.replicate_succ, List.replicate_zero, Nat.reduceSub, Bool.not_true, Bool.not_false, ite_true, ite_false, if_true, if_false, reduceCtorEq, isa_c1, isa_c2, isa_c3, eqO_bl, beq_self_eq_true, lenO_tup, eqO_int, e, allO_end, e3]
end Math

set_option maxRecDepth 100000
set_option maxHeartbeats 4000000
namespace Math
open MP Text PySem
theorem due_eq (a b : W) (st : Sto) : F_l_due [.str [61, 61], a.d, b.d] st = some (vT (alike a b), st) := by
  have h := eq_alike st a b
  cases a <;> cases b <;> simp only [F_l_due, b_l_due, eVar_at, kVar_some, eC_at, eBin_at, k2_some, k3_some, eUn_at, k1_some, kVal_some, kBl_some, kEq_at, kBlN_some, kNe_at, kIn_at, kNotIn_at, kIx_at, ixO_tup, kLt_int, kLe_int, kGt_int, kGe_int, kLt_str, kLe_str, kGt_str, kGe_str, kIs_non, kIs_bl, kIs_int, kIs_str, kIs_tup, kIs_ref, kIsNot_non, kIsNot_bl, kIsNot_int, kIsNot_str, kIsNot_tup, kIsNot_ref, opAdd_int, opAdd_str, opSub_int, opMul_int, opDiv_int, opMod_int, opPow_int, opAnd_int, opOr_int, opNeg_int, eChain_at, kc1_some, kc2_some, kc3_true, kc3_false, kc4_some, tOf_at, kTru_some, kTru2_some, truD_non, truD_bl, truD_int, truD_tup, tAnd_at, kAnd_true, kAnd_false, tOr_at, kOr_true, kOr_false, tNot_at, kNot_some, tYes_at, eAnd_at, keAnd_some, keAnd2_true, keAnd2_false, eOr_at, keOr_some, keOr2_true, keOr2_false, eNot_at, keNot_some, keNot2_some, eIf_at, keIf_true, keIf_false, aNil_at, aCons_at, ka1_some, ka2_some, eTup_at, kTup_0, kTup_1, kTup_2, kTup_3, kTup_4, kTup_5, kTup_6, eLst_at, kLst_0, kLst_1, kLst_2, kLst_3, kLst_4, eDic0_at, eCall_at, kCall_some, o1_at, isiO_at, kIsi_some, tyD_non, tyD_bl, tyD_int, tyD_str, tyD_tup, eBM_at, kbm1_some, kbm2_some, eSl_at, ks2_some, ks3_some, ks4_some, oNone_at, oSome_at, kSome_int, slO_str, sSeq_at, kSeq_nx, kSeq_rt, kSeq_bk, kSeq_ct, sNext_at, sBreak_at, sCont_at, sRetN_at, sRet_at, kRet_some, sExpr_at, kExpr_some, sSet_at, kSet_some, sIf_at, kIf_true, kIf_false, sPar2_k, kPar2_some, sPar3_k, kPar3_some, sAsg_at, kAsg_some, kAsg2_some, mName_at, mTup_2, mTup_3, mCons_at, kmCons_some, mNil_at, sPut_at, kp1_some, kp2_some, kp3_some, kp4_some, kFn_rt, kFn_nx, mkFn_0, mkFn_1, mkFn_2, mkFn_3, mkFn_4, mkFn_5, sWhile_at, List.getElem?_cons_zero, List.getElem?_cons_succ, List.set_cons_zero, List.set_cons_succ, List.replicate_succ, List.replicate_zero, Nat.reduceSub, Bool.not_true, Bool.not_false, ite_true, ite_false, if_true, if_false, reduceCtorEq, eq_str, eq_bl, h, atI0, atI1, beq_true, alike, List.cons.injEq, Nat.reduceEqDiff, decide_false, decide_true, and_false, and_true, false_and, true_and, Bool.or_false, Bool.or_true, Bool.true_or, Bool.false_or, Bool.and_true, Bool.and_false, Bool.false_and, Bool.true_and, List.append_nil]
theorem due_ne (a b : W) (st : Sto) : F_l_due [.str [33, 61], a.d, b.d] st = some (vT (!alike a b), st) := by
  have h := eq_alike st a b
  cases a <;> cases b <;> simp only [F_l_due, b_l_due, eVar_at, kVar_some, eC_at, eBin_at, k2_some, k3_some, eUn_at, k1_some, kVal_some, kBl_some, kEq_at, kBlN_some, kNe_at, kIn_at, kNotIn_at, kIx_at, ixO_tup, kLt_int, kLe_int, kGt_int, kGe_int, kLt_str, kLe_str, kGt_str, kGe_str, kIs_non, kIs_bl, kIs_int, kIs_str, kIs_tup, kIs_ref, kIsNot_non, kIsNot_bl, kIsNot_int, kIsNot_str, kIsNot_tup, kIsNot_ref, opAdd_int, opAdd_str, opSub_int, opMul_int, opDiv_int, opMod_int, opPow_int, opAnd_int, opOr_int, opNeg_int, eChain_at, kc1_some, kc2_some, kc3_true, kc3_false, kc4_some, tOf_at, kTru_some, kTru2_some, truD_non, truD_bl, truD_int, truD_tup, tAnd_at, kAnd_true, kAnd_false, tOr_at, kOr_true, kOr_false, tNot_at, kNot_some, tYes_at, eAnd_at, keAnd_some, keAnd2_true, keAnd2_false, eOr_at, keOr_some, keOr2_true, keOr2_false, eNot_at, keNot_some, keNot2_some, eIf_at, keIf_true, keIf_false, aNil_at, aCons_at, ka1_some, ka2_some, eTup_at, kTup_0, kTup_1, kTup_2, kTup_3, kTup_4, kTup_5, kTup_6, eLst_at, kLst_0, kLst_1, kLst_2, kLst_3, kLst_4, eDic0_at, eCall_at, kCall_some, o1_at, isiO_at, kIsi_some, tyD_non, tyD_bl, tyD_int, tyD_str, tyD_tup, eBM_at, kbm1_some, kbm2_some, eSl_at, ks2_some, ks3_some, ks4_some, oNone_at, oSome_at, kSome_int, slO_str, sSeq_at, kSeq_nx, kSeq_rt, kSeq_bk, kSeq_ct, sNext_at, sBreak_at, sCont_at, sRetN_at, sRet_at, kRet_some, sExpr_at, kExpr_some, sSet_at, kSet_some, sIf_at, kIf_true, kIf_false, sPar2_k, kPar2_some, sPar3_k, kPar3_some, sAsg_at, kAsg_some, kAsg2_some, mName_at, mTup_2, mTup_3, mCons_at, kmCons_some, mNil_at, sPut_at, kp1_some, kp2_some, kp3_some, kp4_some, kFn_rt, kFn_nx, mkFn_0, mkFn_1, mkFn_2, mkFn_3, mkFn_4, mkFn_5, sWhile_at, List.getElem?_cons_zero, List.getElem?_cons_succ, List.set_cons_zero, List.set_cons_succ, List.replicate_succ, List.replicate_zero, Nat.reduceSub, Bool.not_true, Bool.not_false, ite_true, ite_false, if_true, if_false, reduceCtorEq, eq_str, eq_bl, h, atI0, atI1, beq_false, alike, List.cons.injEq, Nat.reduceEqDiff, decide_false, decide_true, and_false, and_true, false_and, true_and, Bool.or_false, Bool.or_true, Bool.true_or, Bool.false_or, Bool.and_true, Bool.and_false, Bool.false_and, Bool.true_and, List.append_nil]
/-- the program's answers -/
inductive Ans : D → Prop
  | tru (b : Bool) : Ans (vT b)
  | num (i : Int) : Ans (vN i)
  | txt (l : List Nat) : Ans (vS l)
  | kind : Ans fKind
  | great : Ans fGreat
  | nought : Ans fNought
  | bl (b : Bool) : Ans (.bl b)
theorem PD_flat1 {n : Nat} {a b : D} (ha : PD n a) (hb : PD n b) : PD (n + 1) (.tup [a, b]) := ⟨by simp [LIM], fun d hd => by
  rcases List.mem_cons.mp hd with e | e
  · exact e ▸ ha
  · exact (List.mem_singleton.mp e) ▸ hb⟩
theorem Ans.pd {d : D} (h : Ans d) : PD 40 d := by
  cases h
  all_goals first
    | exact PD_flat1 (n := 39) trivial (PD_flat1 (n := 38) trivial trivial)
    | exact PD_flat1 (n := 39) trivial trivial
    | exact trivial
theorem Ans.numA (i : Int) : Ans (numA i) := by
  unfold Math.numA
  split
  · exact .num i
  · exact .great
theorem Ans.bitA (f : Int → Int → Int) (i j : Int) : Ans (bitA f i j) := by
  unfold Math.bitA
  split
  · exact .kind
  · exact .numA _
def Sgn.fine (z : Sgn) : Prop := (∀ i j, Ans (z.num i j)) ∧ (∀ l m, Ans (z.txt l m)) ∧ ∀ a b, Ans (z.tru a b)
theorem Sgn.ans {z : Sgn} (h : z.fine) (a b : W) : Ans (z.of a b) := by
  obtain ⟨h1, h2, h3⟩ := h
  cases a <;> cases b <;> first | exact h1 _ _ | exact h2 _ _ | exact h3 _ _ | exact .kind
theorem f_add : zAdd.fine := ⟨fun i j => .numA _, fun l m => (by
  show Ans (if 200 < l.length + m.length then fGreat else vS (l ++ m))
  split
  · exact .great
  · exact .txt _), fun _ _ => .kind⟩
theorem f_sub : zSub.fine := ⟨fun i j => .numA _, fun _ _ => .kind, fun _ _ => .kind⟩
theorem f_mul : zMul.fine := ⟨fun i j => .numA _, fun _ _ => .kind, fun _ _ => .kind⟩
theorem f_div : zDiv.fine := ⟨fun i j => (by
  show Ans (if j = 0 then fNought else Math.numA (gDiv i j))
  split
  · exact .nought
  · exact .numA _), fun _ _ => .kind, fun _ _ => .kind⟩
theorem f_and : zAnd.fine := ⟨fun i j => .bitA _ _ _, fun _ _ => .kind, fun _ _ => .tru _⟩
theorem f_or : zOr.fine := ⟨fun i j => .bitA _ _ _, fun _ _ => .kind, fun _ _ => .tru _⟩
theorem f_lt : zLt.fine := ⟨fun i j => .tru _, fun _ _ => .tru _, fun _ _ => .kind⟩
theorem f_le : zLe.fine := ⟨fun i j => .tru _, fun _ _ => .tru _, fun _ _ => .kind⟩
theorem f_gt : zGt.fine := ⟨fun i j => .tru _, fun _ _ => .tru _, fun _ _ => .kind⟩
theorem f_ge : zGe.fine := ⟨fun i j => .tru _, fun _ _ => .tru _, fun _ _ => .kind⟩
/-! minus, wanting -/
def minusA : W → D
  | .num i => vN (0 - i)
  | _ => fKind
theorem minus_is (a : W) (ha : a.ok) (st : Sto) : F_minus [a.d] st = some (minusA a, st) := by
  cases a with
  | num i =>
    have e : numA (0 - i) = vN (0 - i) := by
      obtain ⟨h1, h2⟩ := ha
      unfold numA
      rw [if_pos ⟨by omega, by omega⟩]
    simp only [F_minus, b_minus, eVar_at, kVar_some, eC_at, eBin_at, k2_some, k3_some, eUn_at, k1_some, kVal_some, kBl_some, kEq_at, kBlN_some, kNe_at, kIn_at, kNotIn_at, kIx_at, ixO_tup, kLt_int, kLe_int, kGt_int, kGe_int, kLt_str, kLe_str, kGt_str, kGe_str, kIs_non, kIs_bl, kIs_int, kIs_str, kIs_tup, kIs_ref, kIsNot_non, kIsNot_bl, kIsNot_int, kIsNot_str, kIsNot_tup, kIsNot_ref, opAdd_int, opAdd_str, opSub_int, opMul_int, opDiv_int, opMod_int, opPow_int, opAnd_int, opOr_int, opNeg_int, eChain_at, kc1_some, kc2_some, kc3_true, kc3_false, kc4_some, tOf_at, kTru_some, kTru2_some, truD_non, truD_bl, truD_int, truD_tup, tAnd_at, kAnd_true, kAnd_false, tOr_at, kOr_true, kOr_false, tNot_at, kNot_some, tYes_at, eAnd_at, keAnd_some, keAnd2_true, keAnd2_false, eOr_at, keOr_some, keOr2_true, keOr2_false, eNot_at, keNot_some, keNot2_some, eIf_at, keIf_true, keIf_false, aNil_at, aCons_at, ka1_some, ka2_some, eTup_at, kTup_0, kTup_1, kTup_2, kTup_3, kTup_4, kTup_5, kTup_6, eLst_at, kLst_0, kLst_1, kLst_2, kLst_3, kLst_4, eDic0_at, eCall_at, kCall_some, o1_at, isiO_at, kIsi_some, tyD_non, tyD_bl, tyD_int, tyD_str, tyD_tup, eBM_at, kbm1_some, kbm2_some, eSl_at, ks2_some, ks3_some, ks4_some, oNone_at, oSome_at, kSome_int, slO_str, sSeq_at, kSeq_nx, kSeq_rt, kSeq_bk, kSeq_ct, sNext_at, sBreak_at, sCont_at, sRetN_at, sRet_at, kRet_some, sExpr_at, kExpr_some, sSet_at, kSet_some, sIf_at, kIf_true, kIf_false, sPar2_k, kPar2_some, sPar3_k, kPar3_some, sAsg_at, kAsg_some, kAsg2_some, mName_at, mTup_2, mTup_3, mCons_at, kmCons_some, mNil_at, sPut_at, kp1_some, kp2_some, kp3_some, kp4_some, kFn_rt, kFn_nx, mkFn_0, mkFn_1, mkFn_2, mkFn_3, mkFn_4, mkFn_5, sWhile_at, List.getElem?_cons_zero, List.getElem?_cons_succ, List.set_cons_zero, List.set_cons_succ, List.replicate_succ, List.replicate_zero, Nat.reduceSub, Bool.not_true, Bool.not_false, ite_true, ite_false, if_true, if_false, reduceCtorEq, eq_str, atI0, atI1, number_answer, e, minusA, List.cons.injEq, Nat.reduceEqDiff, decide_false, decide_true, and_false, and_true, false_and, true_and, Bool.or_false, Bool.or_true, Bool.true_or, Bool.false_or, Bool.and_true, Bool.and_false, Bool.false_and, Bool.true_and, List.append_nil]
  | _ => simp only [F_minus, b_minus, eVar_at, kVar_some, eC_at, eBin_at, k2_some, k3_some, eUn_at, k1_some, kVal_some, kBl_some, kEq_at, kBlN_some, kNe_at, kIn_at, kNotIn_at, kIx_at, ixO_tup, kLt_int, kLe_int, kGt_int, kGe_int, kLt_str, kLe_str, kGt_str, kGe_str, kIs_non, kIs_bl, kIs_int, kIs_str, kIs_tup, kIs_ref, kIsNot_non, kIsNot_bl, kIsNot_int, kIsNot_str, kIsNot_tup, kIsNot_ref, opAdd_int, opAdd_str, opSub_int, opMul_int, opDiv_int, opMod_int, opPow_int, opAnd_int, opOr_int, opNeg_int, eChain_at, kc1_some, kc2_some, kc3_true, kc3_false, kc4_some, tOf_at, kTru_some, kTru2_some, truD_non, truD_bl, truD_int, truD_tup, tAnd_at, kAnd_true, kAnd_false, tOr_at, kOr_true, kOr_false, tNot_at, kNot_some, tYes_at, eAnd_at, keAnd_some, keAnd2_true, keAnd2_false, eOr_at, keOr_some, keOr2_true, keOr2_false, eNot_at, keNot_some, keNot2_some, eIf_at, keIf_true, keIf_false, aNil_at, aCons_at, ka1_some, ka2_some, eTup_at, kTup_0, kTup_1, kTup_2, kTup_3, kTup_4, kTup_5, kTup_6, eLst_at, kLst_0, kLst_1, kLst_2, kLst_3, kLst_4, eDic0_at, eCall_at, kCall_some, o1_at, isiO_at, kIsi_some, tyD_non, tyD_bl, tyD_int, tyD_str, tyD_tup, eBM_at, kbm1_some, kbm2_some, eSl_at, ks2_some, ks3_some, ks4_some, oNone_at, oSome_at, kSome_int, slO_str, sSeq_at, kSeq_nx, kSeq_rt, kSeq_bk, kSeq_ct, sNext_at, sBreak_at, sCont_at, sRetN_at, sRet_at, kRet_some, sExpr_at, kExpr_some, sSet_at, kSet_some, sIf_at, kIf_true, kIf_false, sPar2_k, kPar2_some, sPar3_k, kPar3_some, sAsg_at, kAsg_some, kAsg2_some, mName_at, mTup_2, mTup_3, mCons_at, kmCons_some, mNil_at, sPut_at, kp1_some, kp2_some, kp3_some, kp4_some, kFn_rt, kFn_nx, mkFn_0, mkFn_1, mkFn_2, mkFn_3, mkFn_4, mkFn_5, sWhile_at, List.getElem?_cons_zero, List.getElem?_cons_succ, List.set_cons_zero, List.set_cons_succ, List.replicate_succ, List.replicate_zero, Nat.reduceSub, Bool.not_true, Bool.not_false, ite_true, ite_false, if_true, if_false, reduceCtorEq, eq_str, atI0, atI1, minusA, List.cons.injEq, Nat.reduceEqDiff, decide_false, decide_true, and_false, and_true, false_and, true_and, Bool.or_false, Bool.or_true, Bool.true_or, Bool.false_or, Bool.and_true, Bool.and_false, Bool.false_and, Bool.true_and, List.append_nil]
def wantA : W → Bool
  | .num i => i == 0
  | .txt l => decide (l = [])
  | .tru b => !b
  | .non => true
  | .thing _ => false
theorem in_want (st : Sto) (a : W) : inO st a.d (.tup [.tup [.str [116, 114, 117, 116, 104], .bl false], .tup [.str [110, 111, 110, 101]], .tup [.str [110, 117, 109, 98, 101, 114], .int 0], .tup [.str [116, 101, 120, 116], .str []]]) = some (wantA a) := by
  cases a with
  | num i =>
    simp [inO, inD, DEEP, toP, mapO, PyData.eqv, PyData.eqvAll, mkS_beq, wantA]
    try exact Bool.beq_comm
  | txt l =>
    simp [inO, inD, DEEP, toP, mapO, PyData.eqv, PyData.eqvAll, mkS_beq, wantA]
    try exact eq_comm
  | tru b =>
    cases b <;> simp [inO, inD, DEEP, toP, mapO, PyData.eqv, PyData.eqvAll, mkS_beq, wantA]
  | non => simp [inO, inD, DEEP, toP, mapO, PyData.eqv, PyData.eqvAll, mkS_beq, wantA]
  | thing i => simp [inO, inD, DEEP, toP, mapO, PyData.eqv, PyData.eqvAll, mkS_beq, wantA]
theorem want_is (a : W) (st : Sto) : F_is_wanting [a.d] st = some (.bl (wantA a), st) := by
  simp only [F_is_wanting, b_is_wanting, eVar_at, kVar_some, eC_at, eBin_at, k2_some, k3_some, eUn_at, k1_some, kVal_some, kBl_some, kEq_at, kBlN_some, kNe_at, kIn_at, kNotIn_at, kIx_at, ixO_tup, kLt_int, kLe_int, kGt_int, kGe_int, kLt_str, kLe_str, kGt_str, kGe_str, kIs_non, kIs_bl, kIs_int, kIs_str, kIs_tup, kIs_ref, kIsNot_non, kIsNot_bl, kIsNot_int, kIsNot_str, kIsNot_tup, kIsNot_ref, opAdd_int, opAdd_str, opSub_int, opMul_int, opDiv_int, opMod_int, opPow_int, opAnd_int, opOr_int, opNeg_int, eChain_at, kc1_some, kc2_some, kc3_true, kc3_false, kc4_some, tOf_at, kTru_some, kTru2_some, truD_non, truD_bl, truD_int, truD_tup, tAnd_at, kAnd_true, kAnd_false, tOr_at, kOr_true, kOr_false, tNot_at, kNot_some, tYes_at, eAnd_at, keAnd_some, keAnd2_true, keAnd2_false, eOr_at, keOr_some, keOr2_true, keOr2_false, eNot_at, keNot_some, keNot2_some, eIf_at, keIf_true, keIf_false, aNil_at, aCons_at, ka1_some, ka2_some, eTup_at, kTup_0, kTup_1, kTup_2, kTup_3, kTup_4, kTup_5, kTup_6, eLst_at, kLst_0, kLst_1, kLst_2, kLst_3, kLst_4, eDic0_at, eCall_at, kCall_some, o1_at, isiO_at, kIsi_some, tyD_non, tyD_bl, tyD_int, tyD_str, tyD_tup, eBM_at, kbm1_some, kbm2_some, eSl_at, ks2_some, ks3_some, ks4_some, oNone_at, oSome_at, kSome_int, slO_str, sSeq_at, kSeq_nx, kSeq_rt, kSeq_bk, kSeq_ct, sNext_at, sBreak_at, sCont_at, sRetN_at, sRet_at, kRet_some, sExpr_at, kExpr_some, sSet_at, kSet_some, sIf_at, kIf_true, kIf_false, sPar2_k, kPar2_some, sPar3_k, kPar3_some, sAsg_at, kAsg_some, kAsg2_some, mName_at, mTup_2, mTup_3, mCons_at, kmCons_some, mNil_at, sPut_at, kp1_some, kp2_some, kp3_some, kp4_some, kFn_rt, kFn_nx, mkFn_0, mkFn_1, mkFn_2, mkFn_3, mkFn_4, mkFn_5, sWhile_at, List.getElem?_cons_zero, List.getElem?_cons_succ, List.set_cons_zero, List.set_cons_succ, List.replicate_succ, List.replicate_zero, Nat.reduceSub, Bool.not_true, Bool.not_false, ite_true, ite_false, if_true, if_false, reduceCtorEq, in_want]
theorem eq_wt (st : Sto) (a : W) : eqO st a.d (.tup [.str [116, 101, 120, 116], .str []]) = some (alike a (.txt [])) := eq_alike st a (.txt [])
/-! right -/
theorem right_step {s : List Nat} {a b : W} {d : D} (h1 : ∀ st, F_two [.str s, a.d, b.d] st = some (d, st)) (h2 : ∀ st, ∃ g, F_l_due [.str s, a.d, b.d] st = some (d, st ++ g)) (h3 : Ans d) (q : Option D) (st : Sto) (r : List D) :
    ∃ g, loopF (fun _ => True) (mName 2) uF_l_right_1 (.str s :: r) [some a.d, some b.d, q, none, none] st = loopF (fun _ => True) (mName 2) uF_l_right_1 r [some a.d, some b.d, some (.str s), none, none] (st ++ g) := by
  obtain ⟨g, e2⟩ := h2 st
  obtain ⟨g', e3⟩ := same_pure 40 d (st ++ g) h3.pd
  refine ⟨g ++ g', ?_⟩
  have e : uF_l_right_1 [some a.d, some b.d, some (.str s), none, none] st = some (.nx, [some a.d, some b.d, some (.str s), none, none], st ++ (g ++ g')) := by
    simp only [uF_l_right_1, eVar_at, kVar_some, eC_at, eBin_at, k2_some, k3_some, eUn_at, k1_some, kVal_some, kBl_some, kEq_at, kBlN_some, kNe_at, kIn_at, kNotIn_at, kIx_at, ixO_tup, kLt_int, kLe_int, kGt_int, kGe_int, kLt_str, kLe_str, kGt_str, kGe_str, kIs_non, kIs_bl, kIs_int, kIs_str, kIs_tup, kIs_ref, kIsNot_non, kIsNot_bl, kIsNot_int, kIsNot_str, kIsNot_tup, kIsNot_ref, opAdd_int, opAdd_str, opSub_int, opMul_int, opDiv_int, opMod_int, opPow_int, opAnd_int, opOr_int, opNeg_int, eChain_at, kc1_some, kc2_some, kc3_true, kc3_false, kc4_some, tOf_at, kTru_some, kTru2_some, truD_non, truD_bl, truD_int, truD_tup, tAnd_at, kAnd_true, kAnd_false, tOr_at, kOr_true, kOr_false, tNot_at, kNot_some, tYes_at, eAnd_at, keAnd_some, keAnd2_true, keAnd2_false, eOr_at, keOr_some, keOr2_true, keOr2_false, eNot_at, keNot_some, keNot2_some, eIf_at, keIf_true, keIf_false, aNil_at, aCons_at, ka1_some, ka2_some, eTup_at, kTup_0, kTup_1, kTup_2, kTup_3, kTup_4, kTup_5, kTup_6, eLst_at, kLst_0, kLst_1, kLst_2, kLst_3, kLst_4, eDic0_at, eCall_at, kCall_some, o1_at, isiO_at, kIsi_some, tyD_non, tyD_bl, tyD_int, tyD_str, tyD_tup, eBM_at, kbm1_some, kbm2_some, eSl_at, ks2_some, ks3_some, ks4_some, oNone_at, oSome_at, kSome_int, slO_str, sSeq_at, kSeq_nx, kSeq_rt, kSeq_bk, kSeq_ct, sNext_at, sBreak_at, sCont_at, sRetN_at, sRet_at, kRet_some, sExpr_at, kExpr_some, sSet_at, kSet_some, sIf_at, kIf_true, kIf_false, sPar2_k, kPar2_some, sPar3_k, kPar3_some, sAsg_at, kAsg_some, kAsg2_some, mName_at, mTup_2, mTup_3, mCons_at, kmCons_some, mNil_at, sPut_at, kp1_some, kp2_some, kp3_some, kp4_some, kFn_rt, kFn_nx, mkFn_0, mkFn_1, mkFn_2, mkFn_3, mkFn_4, mkFn_5, sWhile_at, List.getElem?_cons_zero, List.getElem?_cons_succ, List.set_cons_zero, List.set_cons_succ, List.replicate_succ, List.replicate_zero, Nat.reduceSub, Bool.not_true, Bool.not_false, ite_true, ite_false, if_true, if_false, reduceCtorEq, h1, e2, e3, List.append_assoc]
  simp only [loopF_cons, kF1_some, eVar_at, kVar_some, eC_at, eBin_at, k2_some, k3_some, eUn_at, k1_some, kVal_some, kBl_some, kEq_at, kBlN_some, kNe_at, kIn_at, kNotIn_at, kIx_at, ixO_tup, kLt_int, kLe_int, kGt_int, kGe_int, kLt_str, kLe_str, kGt_str, kGe_str, kIs_non, kIs_bl, kIs_int, kIs_str, kIs_tup, kIs_ref, kIsNot_non, kIsNot_bl, kIsNot_int, kIsNot_str, kIsNot_tup, kIsNot_ref, opAdd_int, opAdd_str, opSub_int, opMul_int, opDiv_int, opMod_int, opPow_int, opAnd_int, opOr_int, opNeg_int, eChain_at, kc1_some, kc2_some, kc3_true, kc3_false, kc4_some, tOf_at, kTru_some, kTru2_some, truD_non, truD_bl, truD_int, truD_tup, tAnd_at, kAnd_true, kAnd_false, tOr_at, kOr_true, kOr_false, tNot_at, kNot_some, tYes_at, eAnd_at, keAnd_some, keAnd2_true, keAnd2_false, eOr_at, keOr_some, keOr2_true, keOr2_false, eNot_at, keNot_some, keNot2_some, eIf_at, keIf_true, keIf_false, aNil_at, aCons_at, ka1_some, ka2_some, eTup_at, kTup_0, kTup_1, kTup_2, kTup_3, kTup_4, kTup_5, kTup_6, eLst_at, kLst_0, kLst_1, kLst_2, kLst_3, kLst_4, eDic0_at, eCall_at, kCall_some, o1_at, isiO_at, kIsi_some, tyD_non, tyD_bl, tyD_int, tyD_str, tyD_tup, eBM_at, kbm1_some, kbm2_some, eSl_at, ks2_some, ks3_some, ks4_some, oNone_at, oSome_at, kSome_int, slO_str, sSeq_at, kSeq_nx, kSeq_rt, kSeq_bk, kSeq_ct, sNext_at, sBreak_at, sCont_at, sRetN_at, sRet_at, kRet_some, sExpr_at, kExpr_some, sSet_at, kSet_some, sIf_at, kIf_true, kIf_false, sPar2_k, kPar2_some, sPar3_k, kPar3_some, sAsg_at, kAsg_some, kAsg2_some, mName_at, mTup_2, mTup_3, mCons_at, kmCons_some, mNil_at, sPut_at, kp1_some, kp2_some, kp3_some, kp4_some, kFn_rt, kFn_nx, mkFn_0, mkFn_1, mkFn_2, mkFn_3, mkFn_4, mkFn_5, sWhile_at, List.getElem?_cons_zero, List.getElem?_cons_succ, List.set_cons_zero, List.set_cons_succ, List.replicate_succ, List.replicate_zero, Nat.reduceSub, Bool.not_true, Bool.not_false, ite_true, ite_false, if_true, if_false, reduceCtorEq, e, kF2_nx]
def signsR : List D := [.str [43], .str [45], .str [42], .str [47, 47], .str [38], .str [124], .str [60], .str [60, 61], .str [62], .str [62, 61], .str [61, 61], .str [33, 61]]
theorem right_loop (a b : W) (ha : a.ok) (hb : b.ok) (st : Sto) : ∃ g, loopF (fun _ => True) (mName 2) uF_l_right_1 signsR [some a.d, some b.d, none, none, none] st = some (.nx, [some a.d, some b.d, some (.str [33, 61]), none, none], st ++ g) := by
  unfold signsR
  obtain ⟨g1, e1⟩ := right_step (s := [43]) (a := a) (b := b) (fun st => two_add a b st ha hb) (fun st => due_add a b st ha hb) (Sgn.ans f_add a b) (none) (st) _
  rw [e1]
  obtain ⟨g2, e2⟩ := right_step (s := [45]) (a := a) (b := b) (fun st => two_sub a b st ha hb) (fun st => due_sub a b st ha hb) (Sgn.ans f_sub a b) (some (.str [43])) (st ++ g1) _
  rw [e2]
  obtain ⟨g3, e3⟩ := right_step (s := [42]) (a := a) (b := b) (fun st => two_mul a b st ha hb) (fun st => due_mul a b st ha hb) (Sgn.ans f_mul a b) (some (.str [45])) (st ++ g1 ++ g2) _
  rw [e3]
  obtain ⟨g4, e4⟩ := right_step (s := [47, 47]) (a := a) (b := b) (fun st => two_div a b st ha hb) (fun st => due_div a b st ha hb) (Sgn.ans f_div a b) (some (.str [42])) (st ++ g1 ++ g2 ++ g3) _
  rw [e4]
  obtain ⟨g5, e5⟩ := right_step (s := [38]) (a := a) (b := b) (fun st => two_and a b st ha hb) (fun st => due_and a b st ha hb) (Sgn.ans f_and a b) (some (.str [47, 47])) (st ++ g1 ++ g2 ++ g3 ++ g4) _
  rw [e5]
  obtain ⟨g6, e6⟩ := right_step (s := [124]) (a := a) (b := b) (fun st => two_or a b st ha hb) (fun st => due_or a b st ha hb) (Sgn.ans f_or a b) (some (.str [38])) (st ++ g1 ++ g2 ++ g3 ++ g4 ++ g5) _
  rw [e6]
  obtain ⟨g7, e7⟩ := right_step (s := [60]) (a := a) (b := b) (fun st => two_lt a b st ha hb) (fun st => due_lt a b st ha hb) (Sgn.ans f_lt a b) (some (.str [124])) (st ++ g1 ++ g2 ++ g3 ++ g4 ++ g5 ++ g6) _
  rw [e7]
  obtain ⟨g8, e8⟩ := right_step (s := [60, 61]) (a := a) (b := b) (fun st => two_le a b st ha hb) (fun st => due_le a b st ha hb) (Sgn.ans f_le a b) (some (.str [60])) (st ++ g1 ++ g2 ++ g3 ++ g4 ++ g5 ++ g6 ++ g7) _
  rw [e8]
  obtain ⟨g9, e9⟩ := right_step (s := [62]) (a := a) (b := b) (fun st => two_gt a b st ha hb) (fun st => due_gt a b st ha hb) (Sgn.ans f_gt a b) (some (.str [60, 61])) (st ++ g1 ++ g2 ++ g3 ++ g4 ++ g5 ++ g6 ++ g7 ++ g8) _
  rw [e9]
  obtain ⟨g10, e10⟩ := right_step (s := [62, 61]) (a := a) (b := b) (fun st => two_ge a b st ha hb) (fun st => due_ge a b st ha hb) (Sgn.ans f_ge a b) (some (.str [62])) (st ++ g1 ++ g2 ++ g3 ++ g4 ++ g5 ++ g6 ++ g7 ++ g8 ++ g9) _
  rw [e10]
  obtain ⟨g11, e11⟩ := right_step (s := [61, 61]) (a := a) (b := b) (fun st => two_eq a b st) (fun st => ⟨[], by rw [due_eq, List.append_nil]⟩) (Ans.tru _) (some (.str [62, 61])) (st ++ g1 ++ g2 ++ g3 ++ g4 ++ g5 ++ g6 ++ g7 ++ g8 ++ g9 ++ g10) _
  rw [e11]
  obtain ⟨g12, e12⟩ := right_step (s := [33, 61]) (a := a) (b := b) (fun st => two_ne a b st) (fun st => ⟨[], by rw [due_ne, List.append_nil]⟩) (Ans.tru _) (some (.str [61, 61])) (st ++ g1 ++ g2 ++ g3 ++ g4 ++ g5 ++ g6 ++ g7 ++ g8 ++ g9 ++ g10 ++ g11) _
  rw [e12]
  exact ⟨g1 ++ (g2 ++ (g3 ++ (g4 ++ (g5 ++ (g6 ++ (g7 ++ (g8 ++ (g9 ++ (g10 ++ (g11 ++ g12)))))))))), by simp only [loopF_nil, List.append_assoc]⟩
theorem right_for (a b : W) (ha : a.ok) (hb : b.ok) (st : Sto) : ∃ g, sFor (iV (eTup (aCons (eC (.str [43])) (aCons (eC (.str [45])) (aCons (eC (.str [42])) (aCons (eC (.str [47, 47])) (aCons (eC (.str [38])) (aCons (eC (.str [124])) (aCons (eC (.str [60])) (aCons (eC (.str [60, 61])) (aCons (eC (.str [62])) (aCons (eC (.str [62, 61])) (aCons (eC (.str [61, 61])) (aCons (eC (.str [33, 61])) aNil)))))))))))))) (mName 2) uF_l_right_1 [some a.d, some b.d, none, none, none] st = some (.nx, [some a.d, some b.d, some (.str [33, 61]), none, none], st ++ g) := by
  obtain ⟨g, e⟩ := right_loop a b ha hb st
  exact ⟨g, e⟩
theorem right_is (a b : W) (ha : a.ok) (hb : b.ok) (st : Sto) : ∃ g, F_l_right [a.d, b.d] st = some (.bl true, st ++ g) := by
  obtain ⟨g, e⟩ := right_for a b ha hb st
  have hm : Ans (minusA a) := by
    cases a <;> first | exact .num _ | exact .kind
  obtain ⟨g1, e1⟩ := same_pure 40 (minusA a) (st ++ g) hm.pd
  obtain ⟨g2, e2⟩ := same_pure 40 (.bl (wantA a)) (st ++ (g ++ g1)) (Ans.bl _).pd
  refine ⟨g ++ (g1 ++ g2), ?_⟩
  have m1 := minus_is a ha
  have w1 := want_is a
  have q1 := eq_wt (st ++ g) a
  generalize b.d = y at e ⊢
  cases a with
  | tru x =>
    cases x <;> simp only [W.d, alike, minusA, wantA, decide_true, decide_false, Bool.not_true, Bool.not_false] at e m1 w1 q1 e1 e2 ⊢ <;> simp only [F_l_right, b_l_right, eVar_at, kVar_some, eC_at, eBin_at, k2_some, k3_some, eUn_at, k1_some, kVal_some, kBl_some, kEq_at, kBlN_some, kNe_at, kIn_at, kNotIn_at, kIx_at, ixO_tup, kLt_int, kLe_int, kGt_int, kGe_int, kLt_str, kLe_str, kGt_str, kGe_str, kIs_non, kIs_bl, kIs_int, kIs_str, kIs_tup, kIs_ref, kIsNot_non, kIsNot_bl, kIsNot_int, kIsNot_str, kIsNot_tup, kIsNot_ref, opAdd_int, opAdd_str, opSub_int, opMul_int, opDiv_int, opMod_int, opPow_int, opAnd_int, opOr_int, opNeg_int, eChain_at, kc1_some, kc2_some, kc3_true, kc3_false, kc4_some, tOf_at, kTru_some, kTru2_some, truD_non, truD_bl, truD_int, truD_tup, tAnd_at, kAnd_true, kAnd_false, tOr_at, kOr_true, kOr_false, tNot_at, kNot_some, tYes_at, eAnd_at, keAnd_some, keAnd2_true, keAnd2_false, eOr_at, keOr_some, keOr2_true, keOr2_false, eNot_at, keNot_some, keNot2_some, eIf_at, keIf_true, keIf_false, aNil_at, aCons_at, ka1_some, ka2_some, eTup_at, kTup_0, kTup_1, kTup_2, kTup_3, kTup_4, kTup_5, kTup_6, eLst_at, kLst_0, kLst_1, kLst_2, kLst_3, kLst_4, eDic0_at, eCall_at, kCall_some, o1_at, isiO_at, kIsi_some, tyD_non, tyD_bl, tyD_int, tyD_str, tyD_tup, eBM_at, kbm1_some, kbm2_some, eSl_at, ks2_some, ks3_some, ks4_some, oNone_at, oSome_at, kSome_int, slO_str, sSeq_at, kSeq_nx, kSeq_rt, kSeq_bk, kSeq_ct, sNext_at, sBreak_at, sCont_at, sRetN_at, sRet_at, kRet_some, sExpr_at, kExpr_some, sSet_at, kSet_some, sIf_at, kIf_true, kIf_false, sPar2_k, kPar2_some, sPar3_k, kPar3_some, sAsg_at, kAsg_some, kAsg2_some, mName_at, mTup_2, mTup_3, mCons_at, kmCons_some, mNil_at, sPut_at, kp1_some, kp2_some, kp3_some, kp4_some, kFn_rt, kFn_nx, mkFn_0, mkFn_1, mkFn_2, mkFn_3, mkFn_4, mkFn_5, sWhile_at, List.getElem?_cons_zero, List.getElem?_cons_succ, List.set_cons_zero, List.set_cons_succ, List.replicate_succ, List.replicate_zero, Nat.reduceSub, Bool.not_true, Bool.not_false, ite_true, ite_false, if_true, if_false, reduceCtorEq, e, eq_str, q1, atI0, atI1, m1, w1, e1, e2, List.cons.injEq, Nat.reduceEqDiff, decide_false, decide_true, and_false, and_true, false_and, true_and, Bool.or_false, Bool.or_true, Bool.true_or, Bool.false_or, Bool.and_true, Bool.and_false, Bool.false_and, Bool.true_and, List.append_nil, List.append_assoc]
  | num i =>
    by_cases hi : i = 0
    · subst hi
      simp only [W.d, alike, minusA, wantA, beq_self_eq_true] at e m1 w1 q1 e1 e2 ⊢
      simp only [F_l_right, b_l_right, eVar_at, kVar_some, eC_at, eBin_at, k2_some, k3_some, eUn_at, k1_some, kVal_some, kBl_some, kEq_at, kBlN_some, kNe_at, kIn_at, kNotIn_at, kIx_at, ixO_tup, kLt_int, kLe_int, kGt_int, kGe_int, kLt_str, kLe_str, kGt_str, kGe_str, kIs_non, kIs_bl, kIs_int, kIs_str, kIs_tup, kIs_ref, kIsNot_non, kIsNot_bl, kIsNot_int, kIsNot_str, kIsNot_tup, kIsNot_ref, opAdd_int, opAdd_str, opSub_int, opMul_int, opDiv_int, opMod_int, opPow_int, opAnd_int, opOr_int, opNeg_int, eChain_at, kc1_some, kc2_some, kc3_true, kc3_false, kc4_some, tOf_at, kTru_some, kTru2_some, truD_non, truD_bl, truD_int, truD_tup, tAnd_at, kAnd_true, kAnd_false, tOr_at, kOr_true, kOr_false, tNot_at, kNot_some, tYes_at, eAnd_at, keAnd_some, keAnd2_true, keAnd2_false, eOr_at, keOr_some, keOr2_true, keOr2_false, eNot_at, keNot_some, keNot2_some, eIf_at, keIf_true, keIf_false, aNil_at, aCons_at, ka1_some, ka2_some, eTup_at, kTup_0, kTup_1, kTup_2, kTup_3, kTup_4, kTup_5, kTup_6, eLst_at, kLst_0, kLst_1, kLst_2, kLst_3, kLst_4, eDic0_at, eCall_at, kCall_some, o1_at, isiO_at, kIsi_some, tyD_non, tyD_bl, tyD_int, tyD_str, tyD_tup, eBM_at, kbm1_some, kbm2_some, eSl_at, ks2_some, ks3_some, ks4_some, oNone_at, oSome_at, kSome_int, slO_str, sSeq_at, kSeq_nx, kSeq_rt, kSeq_bk, kSeq_ct, sNext_at, sBreak_at, sCont_at, sRetN_at, sRet_at, kRet_some, sExpr_at, kExpr_some, sSet_at, kSet_some, sIf_at, kIf_true, kIf_false, sPar2_k, kPar2_some, sPar3_k, kPar3_some, sAsg_at, kAsg_some, kAsg2_some, mName_at, mTup_2, mTup_3, mCons_at, kmCons_some, mNil_at, sPut_at, kp1_some, kp2_some, kp3_some, kp4_some, kFn_rt, kFn_nx, mkFn_0, mkFn_1, mkFn_2, mkFn_3, mkFn_4, mkFn_5, sWhile_at, List.getElem?_cons_zero, List.getElem?_cons_succ, List.set_cons_zero, List.set_cons_succ, List.replicate_succ, List.replicate_zero, Nat.reduceSub, Bool.not_true, Bool.not_false, ite_true, ite_false, if_true, if_false, reduceCtorEq, e, eq_str, eq_int, q1, atI0, atI1, m1, w1, e1, e2, beq_self_eq_true, List.cons.injEq, Nat.reduceEqDiff, decide_false, decide_true, and_false, and_true, false_and, true_and, Bool.or_false, Bool.or_true, Bool.true_or, Bool.false_or, Bool.and_true, Bool.and_false, Bool.false_and, Bool.true_and, List.append_nil, List.append_assoc]
    · have hz : (i == 0) = false := beq_eq_false_iff_ne.mpr hi
      simp only [W.d, alike, minusA, wantA, hz] at e m1 w1 q1 e1 e2 ⊢
      simp only [F_l_right, b_l_right, eVar_at, kVar_some, eC_at, eBin_at, k2_some, k3_some, eUn_at, k1_some, kVal_some, kBl_some, kEq_at, kBlN_some, kNe_at, kIn_at, kNotIn_at, kIx_at, ixO_tup, kLt_int, kLe_int, kGt_int, kGe_int, kLt_str, kLe_str, kGt_str, kGe_str, kIs_non, kIs_bl, kIs_int, kIs_str, kIs_tup, kIs_ref, kIsNot_non, kIsNot_bl, kIsNot_int, kIsNot_str, kIsNot_tup, kIsNot_ref, opAdd_int, opAdd_str, opSub_int, opMul_int, opDiv_int, opMod_int, opPow_int, opAnd_int, opOr_int, opNeg_int, eChain_at, kc1_some, kc2_some, kc3_true, kc3_false, kc4_some, tOf_at, kTru_some, kTru2_some, truD_non, truD_bl, truD_int, truD_tup, tAnd_at, kAnd_true, kAnd_false, tOr_at, kOr_true, kOr_false, tNot_at, kNot_some, tYes_at, eAnd_at, keAnd_some, keAnd2_true, keAnd2_false, eOr_at, keOr_some, keOr2_true, keOr2_false, eNot_at, keNot_some, keNot2_some, eIf_at, keIf_true, keIf_false, aNil_at, aCons_at, ka1_some, ka2_some, eTup_at, kTup_0, kTup_1, kTup_2, kTup_3, kTup_4, kTup_5, kTup_6, eLst_at, kLst_0, kLst_1, kLst_2, kLst_3, kLst_4, eDic0_at, eCall_at, kCall_some, o1_at, isiO_at, kIsi_some, tyD_non, tyD_bl, tyD_int, tyD_str, tyD_tup, eBM_at, kbm1_some, kbm2_some, eSl_at, ks2_some, ks3_some, ks4_some, oNone_at, oSome_at, kSome_int, slO_str, sSeq_at, kSeq_nx, kSeq_rt, kSeq_bk, kSeq_ct, sNext_at, sBreak_at, sCont_at, sRetN_at, sRet_at, kRet_some, sExpr_at, kExpr_some, sSet_at, kSet_some, sIf_at, kIf_true, kIf_false, sPar2_k, kPar2_some, sPar3_k, kPar3_some, sAsg_at, kAsg_some, kAsg2_some, mName_at, mTup_2, mTup_3, mCons_at, kmCons_some, mNil_at, sPut_at, kp1_some, kp2_some, kp3_some, kp4_some, kFn_rt, kFn_nx, mkFn_0, mkFn_1, mkFn_2, mkFn_3, mkFn_4, mkFn_5, sWhile_at, List.getElem?_cons_zero, List.getElem?_cons_succ, List.set_cons_zero, List.set_cons_succ, List.replicate_succ, List.replicate_zero, Nat.reduceSub, Bool.not_true, Bool.not_false, ite_true, ite_false, if_true, if_false, reduceCtorEq, e, eq_str, eq_int, q1, atI0, atI1, m1, w1, e1, e2, hz, List.cons.injEq, Nat.reduceEqDiff, decide_false, decide_true, and_false, and_true, false_and, true_and, Bool.or_false, Bool.or_true, Bool.true_or, Bool.false_or, Bool.and_true, Bool.and_false, Bool.false_and, Bool.true_and, List.append_nil, List.append_assoc]
  | txt l =>
    simp only [W.d, alike, minusA, wantA] at e m1 w1 q1 e1 e2 ⊢
    simp only [F_l_right, b_l_right, eVar_at, kVar_some, eC_at, eBin_at, k2_some, k3_some, eUn_at, k1_some, kVal_some, kBl_some, kEq_at, kBlN_some, kNe_at, kIn_at, kNotIn_at, kIx_at, ixO_tup, kLt_int, kLe_int, kGt_int, kGe_int, kLt_str, kLe_str, kGt_str, kGe_str, kIs_non, kIs_bl, kIs_int, kIs_str, kIs_tup, kIs_ref, kIsNot_non, kIsNot_bl, kIsNot_int, kIsNot_str, kIsNot_tup, kIsNot_ref, opAdd_int, opAdd_str, opSub_int, opMul_int, opDiv_int, opMod_int, opPow_int, opAnd_int, opOr_int, opNeg_int, eChain_at, kc1_some, kc2_some, kc3_true, kc3_false, kc4_some, tOf_at, kTru_some, kTru2_some, truD_non, truD_bl, truD_int, truD_tup, tAnd_at, kAnd_true, kAnd_false, tOr_at, kOr_true, kOr_false, tNot_at, kNot_some, tYes_at, eAnd_at, keAnd_some, keAnd2_true, keAnd2_false, eOr_at, keOr_some, keOr2_true, keOr2_false, eNot_at, keNot_some, keNot2_some, eIf_at, keIf_true, keIf_false, aNil_at, aCons_at, ka1_some, ka2_some, eTup_at, kTup_0, kTup_1, kTup_2, kTup_3, kTup_4, kTup_5, kTup_6, eLst_at, kLst_0, kLst_1, kLst_2, kLst_3, kLst_4, eDic0_at, eCall_at, kCall_some, o1_at, isiO_at, kIsi_some, tyD_non, tyD_bl, tyD_int, tyD_str, tyD_tup, eBM_at, kbm1_some, kbm2_some, eSl_at, ks2_some, ks3_some, ks4_some, oNone_at, oSome_at, kSome_int, slO_str, sSeq_at, kSeq_nx, kSeq_rt, kSeq_bk, kSeq_ct, sNext_at, sBreak_at, sCont_at, sRetN_at, sRet_at, kRet_some, sExpr_at, kExpr_some, sSet_at, kSet_some, sIf_at, kIf_true, kIf_false, sPar2_k, kPar2_some, sPar3_k, kPar3_some, sAsg_at, kAsg_some, kAsg2_some, mName_at, mTup_2, mTup_3, mCons_at, kmCons_some, mNil_at, sPut_at, kp1_some, kp2_some, kp3_some, kp4_some, kFn_rt, kFn_nx, mkFn_0, mkFn_1, mkFn_2, mkFn_3, mkFn_4, mkFn_5, sWhile_at, List.getElem?_cons_zero, List.getElem?_cons_succ, List.set_cons_zero, List.set_cons_succ, List.replicate_succ, List.replicate_zero, Nat.reduceSub, Bool.not_true, Bool.not_false, ite_true, ite_false, if_true, if_false, reduceCtorEq, e, eq_str, q1, atI0, atI1, m1, w1, e1, e2, List.cons.injEq, Nat.reduceEqDiff, decide_false, decide_true, and_false, and_true, false_and, true_and, Bool.or_false, Bool.or_true, Bool.true_or, Bool.false_or, Bool.and_true, Bool.and_false, Bool.false_and, Bool.true_and, List.append_nil, List.append_assoc]
  | non =>
    simp only [W.d, alike, minusA, wantA] at e m1 w1 q1 e1 e2 ⊢
    simp only [F_l_right, b_l_right, eVar_at, kVar_some, eC_at, eBin_at, k2_some, k3_some, eUn_at, k1_some, kVal_some, kBl_some, kEq_at, kBlN_some, kNe_at, kIn_at, kNotIn_at, kIx_at, ixO_tup, kLt_int, kLe_int, kGt_int, kGe_int, kLt_str, kLe_str, kGt_str, kGe_str, kIs_non, kIs_bl, kIs_int, kIs_str, kIs_tup, kIs_ref, kIsNot_non, kIsNot_bl, kIsNot_int, kIsNot_str, kIsNot_tup, kIsNot_ref, opAdd_int, opAdd_str, opSub_int, opMul_int, opDiv_int, opMod_int, opPow_int, opAnd_int, opOr_int, opNeg_int, eChain_at, kc1_some, kc2_some, kc3_true, kc3_false, kc4_some, tOf_at, kTru_some, kTru2_some, truD_non, truD_bl, truD_int, truD_tup, tAnd_at, kAnd_true, kAnd_false, tOr_at, kOr_true, kOr_false, tNot_at, kNot_some, tYes_at, eAnd_at, keAnd_some, keAnd2_true, keAnd2_false, eOr_at, keOr_some, keOr2_true, keOr2_false, eNot_at, keNot_some, keNot2_some, eIf_at, keIf_true, keIf_false, aNil_at, aCons_at, ka1_some, ka2_some, eTup_at, kTup_0, kTup_1, kTup_2, kTup_3, kTup_4, kTup_5, kTup_6, eLst_at, kLst_0, kLst_1, kLst_2, kLst_3, kLst_4, eDic0_at, eCall_at, kCall_some, o1_at, isiO_at, kIsi_some, tyD_non, tyD_bl, tyD_int, tyD_str, tyD_tup, eBM_at, kbm1_some, kbm2_some, eSl_at, ks2_some, ks3_some, ks4_some, oNone_at, oSome_at, kSome_int, slO_str, sSeq_at, kSeq_nx, kSeq_rt, kSeq_bk, kSeq_ct, sNext_at, sBreak_at, sCont_at, sRetN_at, sRet_at, kRet_some, sExpr_at, kExpr_some, sSet_at, kSet_some, sIf_at, kIf_true, kIf_false, sPar2_k, kPar2_some, sPar3_k, kPar3_some, sAsg_at, kAsg_some, kAsg2_some, mName_at, mTup_2, mTup_3, mCons_at, kmCons_some, mNil_at, sPut_at, kp1_some, kp2_some, kp3_some, kp4_some, kFn_rt, kFn_nx, mkFn_0, mkFn_1, mkFn_2, mkFn_3, mkFn_4, mkFn_5, sWhile_at, List.getElem?_cons_zero, List.getElem?_cons_succ, List.set_cons_zero, List.set_cons_succ, List.replicate_succ, List.replicate_zero, Nat.reduceSub, Bool.not_true, Bool.not_false, ite_true, ite_false, if_true, if_false, reduceCtorEq, e, eq_str, q1, atI0, atI1, m1, w1, e1, e2, List.cons.injEq, Nat.reduceEqDiff, decide_false, decide_true, and_false, and_true, false_and, true_and, Bool.or_false, Bool.or_true, Bool.true_or, Bool.false_or, Bool.and_true, Bool.and_false, Bool.false_and, Bool.true_and, List.append_nil, List.append_assoc]
  | thing i =>
    simp only [W.d, alike, minusA, wantA] at e m1 w1 q1 e1 e2 ⊢
    simp only [F_l_right, b_l_right, eVar_at, kVar_some, eC_at, eBin_at, k2_some, k3_some, eUn_at, k1_some, kVal_some, kBl_some, kEq_at, kBlN_some, kNe_at, kIn_at, kNotIn_at, kIx_at, ixO_tup, kLt_int, kLe_int, kGt_int, kGe_int, kLt_str, kLe_str, kGt_str, kGe_str, kIs_non, kIs_bl, kIs_int, kIs_str, kIs_tup, kIs_ref, kIsNot_non, kIsNot_bl, kIsNot_int, kIsNot_str, kIsNot_tup, kIsNot_ref, opAdd_int, opAdd_str, opSub_int, opMul_int, opDiv_int, opMod_int, opPow_int, opAnd_int, opOr_int, opNeg_int, eChain_at, kc1_some, kc2_some, kc3_true, kc3_false, kc4_some, tOf_at, kTru_some, kTru2_some, truD_non, truD_bl, truD_int, truD_tup, tAnd_at, kAnd_true, kAnd_false, tOr_at, kOr_true, kOr_false, tNot_at, kNot_some, tYes_at, eAnd_at, keAnd_some, keAnd2_true, keAnd2_false, eOr_at, keOr_some, keOr2_true, keOr2_false, eNot_at, keNot_some, keNot2_some, eIf_at, keIf_true, keIf_false, aNil_at, aCons_at, ka1_some, ka2_some, eTup_at, kTup_0, kTup_1, kTup_2, kTup_3, kTup_4, kTup_5, kTup_6, eLst_at, kLst_0, kLst_1, kLst_2, kLst_3, kLst_4, eDic0_at, eCall_at, kCall_some, o1_at, isiO_at, kIsi_some, tyD_non, tyD_bl, tyD_int, tyD_str, tyD_tup, eBM_at, kbm1_some, kbm2_some, eSl_at, ks2_some, ks3_some, ks4_some, oNone_at, oSome_at, kSome_int, slO_str, sSeq_at, kSeq_nx, kSeq_rt, kSeq_bk, kSeq_ct, sNext_at, sBreak_at, sCont_at, sRetN_at, sRet_at, kRet_some, sExpr_at, kExpr_some, sSet_at, kSet_some, sIf_at, kIf_true, kIf_false, sPar2_k, kPar2_some, sPar3_k, kPar3_some, sAsg_at, kAsg_some, kAsg2_some, mName_at, mTup_2, mTup_3, mCons_at, kmCons_some, mNil_at, sPut_at, kp1_some, kp2_some, kp3_some, kp4_some, kFn_rt, kFn_nx, mkFn_0, mkFn_1, mkFn_2, mkFn_3, mkFn_4, mkFn_5, sWhile_at, List.getElem?_cons_zero, List.getElem?_cons_succ, List.set_cons_zero, List.set_cons_succ, List.replicate_succ, List.replicate_zero, Nat.reduceSub, Bool.not_true, Bool.not_false, ite_true, ite_false, if_true, if_false, reduceCtorEq, e, eq_str, q1, atI0, atI1, m1, w1, e1, e2, List.cons.injEq, Nat.reduceEqDiff, decide_false, decide_true, and_false, and_true, false_and, true_and, Bool.or_false, Bool.or_true, Bool.true_or, Bool.false_or, Bool.and_true, Bool.and_false, Bool.false_and, Bool.true_and, List.append_nil, List.append_assoc]
end Math
set_option maxRecDepth 100000
set_option maxHeartbeats 4000000
namespace Math
open MP Text PySem
theorem cDv_2 (w : Int) : cDiv w 2 = true := decide_eq_true ⟨by decide, by decide +kernel⟩
theorem cMd_2 (w : Int) : cMod w 2 = true := decide_eq_true (by decide)
theorem gDv_2 (w : Int) : gDiv w 2 = w / 2 := by unfold gDiv; rw [if_pos (by decide)]
theorem gMd_2 (w : Int) : gMod w 2 = w % 2 := by unfold gMod; rw [if_pos (by decide)]
theorem cMr_2 (w : Int) : cMul w 2 = true := decide_eq_true (.inr (.inl (by decide)))
theorem cMl_2 (w : Int) : cMul 2 w = true := decide_eq_true (.inl (by decide))
theorem cDv_91 (w : Int) : cDiv w 91 = true := decide_eq_true ⟨by decide, by decide +kernel⟩
theorem cMd_91 (w : Int) : cMod w 91 = true := decide_eq_true (by decide)
theorem gDv_91 (w : Int) : gDiv w 91 = w / 91 := by unfold gDiv; rw [if_pos (by decide)]
theorem gMd_91 (w : Int) : gMod w 91 = w % 91 := by unfold gMod; rw [if_pos (by decide)]
theorem cMr_91 (w : Int) : cMul w 91 = true := decide_eq_true (.inr (.inl (by decide)))
theorem cMl_91 (w : Int) : cMul 91 w = true := decide_eq_true (.inl (by decide))
theorem cDv_3 (w : Int) : cDiv w 3 = true := decide_eq_true ⟨by decide, by decide +kernel⟩
theorem cMd_3 (w : Int) : cMod w 3 = true := decide_eq_true (by decide)
theorem gDv_3 (w : Int) : gDiv w 3 = w / 3 := by unfold gDiv; rw [if_pos (by decide)]
theorem gMd_3 (w : Int) : gMod w 3 = w % 3 := by unfold gMod; rw [if_pos (by decide)]
theorem cMr_3 (w : Int) : cMul w 3 = true := decide_eq_true (.inr (.inl (by decide)))
theorem cMl_3 (w : Int) : cMul 3 w = true := decide_eq_true (.inl (by decide))
theorem cDv_4 (w : Int) : cDiv w 4 = true := decide_eq_true ⟨by decide, by decide +kernel⟩
theorem cMd_4 (w : Int) : cMod w 4 = true := decide_eq_true (by decide)
theorem gDv_4 (w : Int) : gDiv w 4 = w / 4 := by unfold gDiv; rw [if_pos (by decide)]
theorem gMd_4 (w : Int) : gMod w 4 = w % 4 := by unfold gMod; rw [if_pos (by decide)]
theorem cMr_4 (w : Int) : cMul w 4 = true := decide_eq_true (.inr (.inl (by decide)))
theorem cMl_4 (w : Int) : cMul 4 w = true := decide_eq_true (.inl (by decide))
theorem cDv_5 (w : Int) : cDiv w 5 = true := decide_eq_true ⟨by decide, by decide +kernel⟩
theorem cMd_5 (w : Int) : cMod w 5 = true := decide_eq_true (by decide)
theorem gDv_5 (w : Int) : gDiv w 5 = w / 5 := by unfold gDiv; rw [if_pos (by decide)]
theorem gMd_5 (w : Int) : gMod w 5 = w % 5 := by unfold gMod; rw [if_pos (by decide)]
theorem cMr_5 (w : Int) : cMul w 5 = true := decide_eq_true (.inr (.inl (by decide)))
theorem cMl_5 (w : Int) : cMul 5 w = true := decide_eq_true (.inl (by decide))
theorem cDv_6 (w : Int) : cDiv w 6 = true := decide_eq_true ⟨by decide, by decide +kernel⟩
theorem cMd_6 (w : Int) : cMod w 6 = true := decide_eq_true (by decide)
theorem gDv_6 (w : Int) : gDiv w 6 = w / 6 := by unfold gDiv; rw [if_pos (by decide)]
theorem gMd_6 (w : Int) : gMod w 6 = w % 6 := by unfold gMod; rw [if_pos (by decide)]
theorem cMr_6 (w : Int) : cMul w 6 = true := decide_eq_true (.inr (.inl (by decide)))
theorem cMl_6 (w : Int) : cMul 6 w = true := decide_eq_true (.inl (by decide))
theorem cDv_7 (w : Int) : cDiv w 7 = true := decide_eq_true ⟨by decide, by decide +kernel⟩
theorem cMd_7 (w : Int) : cMod w 7 = true := decide_eq_true (by decide)
theorem gDv_7 (w : Int) : gDiv w 7 = w / 7 := by unfold gDiv; rw [if_pos (by decide)]
theorem gMd_7 (w : Int) : gMod w 7 = w % 7 := by unfold gMod; rw [if_pos (by decide)]
theorem cMr_7 (w : Int) : cMul w 7 = true := decide_eq_true (.inr (.inl (by decide)))
theorem cMl_7 (w : Int) : cMul 7 w = true := decide_eq_true (.inl (by decide))
theorem cDv_8 (w : Int) : cDiv w 8 = true := decide_eq_true ⟨by decide, by decide +kernel⟩
theorem cMd_8 (w : Int) : cMod w 8 = true := decide_eq_true (by decide)
theorem gDv_8 (w : Int) : gDiv w 8 = w / 8 := by unfold gDiv; rw [if_pos (by decide)]
theorem gMd_8 (w : Int) : gMod w 8 = w % 8 := by unfold gMod; rw [if_pos (by decide)]
theorem cMr_8 (w : Int) : cMul w 8 = true := decide_eq_true (.inr (.inl (by decide)))
theorem cMl_8 (w : Int) : cMul 8 w = true := decide_eq_true (.inl (by decide))
theorem cDv_15 (w : Int) : cDiv w 15 = true := decide_eq_true ⟨by decide, by decide +kernel⟩
theorem cMd_15 (w : Int) : cMod w 15 = true := decide_eq_true (by decide)
theorem gDv_15 (w : Int) : gDiv w 15 = w / 15 := by unfold gDiv; rw [if_pos (by decide)]
theorem gMd_15 (w : Int) : gMod w 15 = w % 15 := by unfold gMod; rw [if_pos (by decide)]
theorem cMr_15 (w : Int) : cMul w 15 = true := decide_eq_true (.inr (.inl (by decide)))
theorem cMl_15 (w : Int) : cMul 15 w = true := decide_eq_true (.inl (by decide))
theorem cDv_30 (w : Int) : cDiv w 30 = true := decide_eq_true ⟨by decide, by decide +kernel⟩
theorem cMd_30 (w : Int) : cMod w 30 = true := decide_eq_true (by decide)
theorem gDv_30 (w : Int) : gDiv w 30 = w / 30 := by unfold gDiv; rw [if_pos (by decide)]
theorem gMd_30 (w : Int) : gMod w 30 = w % 30 := by unfold gMod; rw [if_pos (by decide)]
theorem cMr_30 (w : Int) : cMul w 30 = true := decide_eq_true (.inr (.inl (by decide)))
theorem cMl_30 (w : Int) : cMul 30 w = true := decide_eq_true (.inl (by decide))
theorem cDv_36 (w : Int) : cDiv w 36 = true := decide_eq_true ⟨by decide, by decide +kernel⟩
theorem cMd_36 (w : Int) : cMod w 36 = true := decide_eq_true (by decide)
theorem gDv_36 (w : Int) : gDiv w 36 = w / 36 := by unfold gDiv; rw [if_pos (by decide)]
theorem gMd_36 (w : Int) : gMod w 36 = w % 36 := by unfold gMod; rw [if_pos (by decide)]
theorem cMr_36 (w : Int) : cMul w 36 = true := decide_eq_true (.inr (.inl (by decide)))
theorem cMl_36 (w : Int) : cMul 36 w = true := decide_eq_true (.inl (by decide))
theorem cDv_40 (w : Int) : cDiv w 40 = true := decide_eq_true ⟨by decide, by decide +kernel⟩
theorem cMd_40 (w : Int) : cMod w 40 = true := decide_eq_true (by decide)
theorem gDv_40 (w : Int) : gDiv w 40 = w / 40 := by unfold gDiv; rw [if_pos (by decide)]
theorem gMd_40 (w : Int) : gMod w 40 = w % 40 := by unfold gMod; rw [if_pos (by decide)]
theorem cMr_40 (w : Int) : cMul w 40 = true := decide_eq_true (.inr (.inl (by decide)))
theorem cMl_40 (w : Int) : cMul 40 w = true := decide_eq_true (.inl (by decide))
theorem cDv_90 (w : Int) : cDiv w 90 = true := decide_eq_true ⟨by decide, by decide +kernel⟩
theorem cMd_90 (w : Int) : cMod w 90 = true := decide_eq_true (by decide)
theorem gDv_90 (w : Int) : gDiv w 90 = w / 90 := by unfold gDiv; rw [if_pos (by decide)]
theorem gMd_90 (w : Int) : gMod w 90 = w % 90 := by unfold gMod; rw [if_pos (by decide)]
theorem cMr_90 (w : Int) : cMul w 90 = true := decide_eq_true (.inr (.inl (by decide)))
theorem cMl_90 (w : Int) : cMul 90 w = true := decide_eq_true (.inl (by decide))
theorem cDv_100 (w : Int) : cDiv w 100 = true := decide_eq_true ⟨by decide, by decide +kernel⟩
theorem cMd_100 (w : Int) : cMod w 100 = true := decide_eq_true (by decide)
theorem gDv_100 (w : Int) : gDiv w 100 = w / 100 := by unfold gDiv; rw [if_pos (by decide)]
theorem gMd_100 (w : Int) : gMod w 100 = w % 100 := by unfold gMod; rw [if_pos (by decide)]
theorem cMr_100 (w : Int) : cMul w 100 = true := decide_eq_true (.inr (.inl (by decide)))
theorem cMl_100 (w : Int) : cMul 100 w = true := decide_eq_true (.inl (by decide))
theorem cDv_180 (w : Int) : cDiv w 180 = true := decide_eq_true ⟨by decide, by decide +kernel⟩
theorem cMd_180 (w : Int) : cMod w 180 = true := decide_eq_true (by decide)
theorem gDv_180 (w : Int) : gDiv w 180 = w / 180 := by unfold gDiv; rw [if_pos (by decide)]
theorem gMd_180 (w : Int) : gMod w 180 = w % 180 := by unfold gMod; rw [if_pos (by decide)]
theorem cMr_180 (w : Int) : cMul w 180 = true := decide_eq_true (.inr (.inl (by decide)))
theorem cMl_180 (w : Int) : cMul 180 w = true := decide_eq_true (.inl (by decide))
theorem cDv_360 (w : Int) : cDiv w 360 = true := decide_eq_true ⟨by decide, by decide +kernel⟩
theorem cMd_360 (w : Int) : cMod w 360 = true := decide_eq_true (by decide)
theorem gDv_360 (w : Int) : gDiv w 360 = w / 360 := by unfold gDiv; rw [if_pos (by decide)]
theorem gMd_360 (w : Int) : gMod w 360 = w % 360 := by unfold gMod; rw [if_pos (by decide)]
theorem cMr_360 (w : Int) : cMul w 360 = true := decide_eq_true (.inr (.inl (by decide)))
theorem cMl_360 (w : Int) : cMul 360 w = true := decide_eq_true (.inl (by decide))
theorem cDv_450 (w : Int) : cDiv w 450 = true := decide_eq_true ⟨by decide, by decide +kernel⟩
theorem cMd_450 (w : Int) : cMod w 450 = true := decide_eq_true (by decide)
theorem gDv_450 (w : Int) : gDiv w 450 = w / 450 := by unfold gDiv; rw [if_pos (by decide)]
theorem gMd_450 (w : Int) : gMod w 450 = w % 450 := by unfold gMod; rw [if_pos (by decide)]
theorem cMr_450 (w : Int) : cMul w 450 = true := decide_eq_true (.inr (.inl (by decide)))
theorem cMl_450 (w : Int) : cMul 450 w = true := decide_eq_true (.inl (by decide))
theorem cDv_3150 (w : Int) : cDiv w 3150 = true := decide_eq_true ⟨by decide, by decide +kernel⟩
theorem cMd_3150 (w : Int) : cMod w 3150 = true := decide_eq_true (by decide)
theorem gDv_3150 (w : Int) : gDiv w 3150 = w / 3150 := by unfold gDiv; rw [if_pos (by decide)]
theorem gMd_3150 (w : Int) : gMod w 3150 = w % 3150 := by unfold gMod; rw [if_pos (by decide)]
theorem cMr_3150 (w : Int) : cMul w 3150 = true := decide_eq_true (.inr (.inl (by decide)))
theorem cMl_3150 (w : Int) : cMul 3150 w = true := decide_eq_true (.inl (by decide))
theorem cDv_7000 (w : Int) : cDiv w 7000 = true := decide_eq_true ⟨by decide, by decide +kernel⟩
theorem cMd_7000 (w : Int) : cMod w 7000 = true := decide_eq_true (by decide)
theorem gDv_7000 (w : Int) : gDiv w 7000 = w / 7000 := by unfold gDiv; rw [if_pos (by decide)]
theorem gMd_7000 (w : Int) : gMod w 7000 = w % 7000 := by unfold gMod; rw [if_pos (by decide)]
theorem cMr_7000 (w : Int) : cMul w 7000 = true := decide_eq_true (.inr (.inl (by decide)))
theorem cMl_7000 (w : Int) : cMul 7000 w = true := decide_eq_true (.inl (by decide))
theorem cDv_31 (w : Int) : cDiv w 31 = true := decide_eq_true ⟨by decide, by decide +kernel⟩
theorem cMd_31 (w : Int) : cMod w 31 = true := decide_eq_true (by decide)
theorem gDv_31 (w : Int) : gDiv w 31 = w / 31 := by unfold gDiv; rw [if_pos (by decide)]
theorem gMd_31 (w : Int) : gMod w 31 = w % 31 := by unfold gMod; rw [if_pos (by decide)]
theorem cMr_31 (w : Int) : cMul w 31 = true := decide_eq_true (.inr (.inl (by decide)))
theorem cMl_31 (w : Int) : cMul 31 w = true := decide_eq_true (.inl (by decide))
theorem cDv_7919 (w : Int) : cDiv w 7919 = true := decide_eq_true ⟨by decide, by decide +kernel⟩
theorem cMd_7919 (w : Int) : cMod w 7919 = true := decide_eq_true (by decide)
theorem gDv_7919 (w : Int) : gDiv w 7919 = w / 7919 := by unfold gDiv; rw [if_pos (by decide)]
theorem gMd_7919 (w : Int) : gMod w 7919 = w % 7919 := by unfold gMod; rw [if_pos (by decide)]
theorem cMr_7919 (w : Int) : cMul w 7919 = true := decide_eq_true (.inr (.inl (by decide)))
theorem cMl_7919 (w : Int) : cMul 7919 w = true := decide_eq_true (.inl (by decide))
theorem cDv_48271 (w : Int) : cDiv w 48271 = true := decide_eq_true ⟨by decide, by decide +kernel⟩
theorem cMd_48271 (w : Int) : cMod w 48271 = true := decide_eq_true (by decide)
theorem gDv_48271 (w : Int) : gDiv w 48271 = w / 48271 := by unfold gDiv; rw [if_pos (by decide)]
theorem gMd_48271 (w : Int) : gMod w 48271 = w % 48271 := by unfold gMod; rw [if_pos (by decide)]
theorem cMr_48271 (w : Int) : cMul w 48271 = true := decide_eq_true (.inr (.inl (by decide)))
theorem cMl_48271 (w : Int) : cMul 48271 w = true := decide_eq_true (.inl (by decide))
theorem cDv_2147483647 (w : Int) : cDiv w 2147483647 = true := decide_eq_true ⟨by decide, by decide +kernel⟩
theorem cMd_2147483647 (w : Int) : cMod w 2147483647 = true := decide_eq_true (by decide)
theorem gDv_2147483647 (w : Int) : gDiv w 2147483647 = w / 2147483647 := by unfold gDiv; rw [if_pos (by decide)]
theorem gMd_2147483647 (w : Int) : gMod w 2147483647 = w % 2147483647 := by unfold gMod; rw [if_pos (by decide)]
theorem cMr_2147483647 (w : Int) : cMul w 2147483647 = true := decide_eq_true (.inr (.inl (by decide)))
theorem cMl_2147483647 (w : Int) : cMul 2147483647 w = true := decide_eq_true (.inl (by decide))
theorem len_cut {cs : List Int} : (cs.map D.int).length = cs.length := List.length_map _
theorem cell_at {st : Sto} {j k : Nat} {ns : List Int} (h : rdL st j = some (ns.map D.int)) : ∃ n, F_l_cell_at [.ref j, .int (k : Nat)] st = some (.int n, st) := by
  by_cases hk : k < ns.length
  · refine ⟨ns[k], ?_⟩
    have e : ixO (.ref j) (.int (k : Nat)) st = some (.int ns[k]) := by
      rw [ixO_lst h]
      exact L2.atI_nat (by simp [hk])
    have c : (k : Int) < (ns.length : Int) := by omega
    simp only [F_l_cell_at, b_l_cell_at, eVar_at, kVar_some, eC_at, eBin_at, k2_some, k3_some, eUn_at, k1_some, kVal_some, kBl_some, kEq_at, kBlN_some, kNe_at, kIn_at, kNotIn_at, kIx_at, ixO_tup, kLt_int, kLe_int, kGt_int, kGe_int, kLt_str, kLe_str, kGt_str, kGe_str, kIs_non, kIs_bl, kIs_int, kIs_str, kIs_tup, kIs_ref, kIsNot_non, kIsNot_bl, kIsNot_int, kIsNot_str, kIsNot_tup, kIsNot_ref, opAdd_int, opAdd_str, opSub_int, opMul_int, opDiv_int, opMod_int, opPow_int, opAnd_int, opOr_int, opNeg_int, eChain_at, kc1_some, kc2_some, kc3_true, kc3_false, kc4_some, tOf_at, kTru_some, kTru2_some, truD_non, truD_bl, truD_int, truD_tup, tAnd_at, kAnd_true, kAnd_false, tOr_at, kOr_true, kOr_false, tNot_at, kNot_some, tYes_at, eAnd_at, keAnd_some, keAnd2_true, keAnd2_false, eOr_at, keOr_some, keOr2_true, keOr2_false, eNot_at, keNot_some, keNot2_some, eIf_at, keIf_true, keIf_false, aNil_at, aCons_at, ka1_some, ka2_some, eTup_at, kTup_0, kTup_1, kTup_2, kTup_3, kTup_4, kTup_5, kTup_6, eLst_at, kLst_0, kLst_1, kLst_2, kLst_3, kLst_4, eDic0_at, eCall_at, kCall_some, o1_at, isiO_at, kIsi_some, tyD_non, tyD_bl, tyD_int, tyD_str, tyD_tup, eBM_at, kbm1_some, kbm2_some, eSl_at, ks2_some, ks3_some, ks4_some, oNone_at, oSome_at, kSome_int, slO_str, sSeq_at, kSeq_nx, kSeq_rt, kSeq_bk, kSeq_ct, sNext_at, sBreak_at, sCont_at, sRetN_at, sRet_at, kRet_some, sExpr_at, kExpr_some, sSet_at, kSet_some, sIf_at, kIf_true, kIf_false, sPar2_k, kPar2_some, sPar3_k, kPar3_some, sAsg_at, kAsg_some, kAsg2_some, mName_at, mTup_2, mTup_3, mCons_at, kmCons_some, mNil_at, sPut_at, kp1_some, kp2_some, kp3_some, kp4_some, kFn_rt, kFn_nx, mkFn_0, mkFn_1, mkFn_2, mkFn_3, mkFn_4, mkFn_5, sWhile_at, List.getElem?_cons_zero, List.getElem?_cons_succ, List.set_cons_zero, List.set_cons_succ, List.replicate_succ, List.replicate_zero, Nat.reduceSub, Bool.not_true, Bool.not_false, ite_true, ite_false, if_true, if_false, reduceCtorEq, lenO_lst h, List.length_map, e, c, decide_true]
  · refine ⟨0, ?_⟩
    have c : ¬ (k : Int) < (ns.length : Int) := by omega
    simp only [F_l_cell_at, b_l_cell_at, eVar_at, kVar_some, eC_at, eBin_at, k2_some, k3_some, eUn_at, k1_some, kVal_some, kBl_some, kEq_at, kBlN_some, kNe_at, kIn_at, kNotIn_at, kIx_at, ixO_tup, kLt_int, kLe_int, kGt_int, kGe_int, kLt_str, kLe_str, kGt_str, kGe_str, kIs_non, kIs_bl, kIs_int, kIs_str, kIs_tup, kIs_ref, kIsNot_non, kIsNot_bl, kIsNot_int, kIsNot_str, kIsNot_tup, kIsNot_ref, opAdd_int, opAdd_str, opSub_int, opMul_int, opDiv_int, opMod_int, opPow_int, opAnd_int, opOr_int, opNeg_int, eChain_at, kc1_some, kc2_some, kc3_true, kc3_false, kc4_some, tOf_at, kTru_some, kTru2_some, truD_non, truD_bl, truD_int, truD_tup, tAnd_at, kAnd_true, kAnd_false, tOr_at, kOr_true, kOr_false, tNot_at, kNot_some, tYes_at, eAnd_at, keAnd_some, keAnd2_true, keAnd2_false, eOr_at, keOr_some, keOr2_true, keOr2_false, eNot_at, keNot_some, keNot2_some, eIf_at, keIf_true, keIf_false, aNil_at, aCons_at, ka1_some, ka2_some, eTup_at, kTup_0, kTup_1, kTup_2, kTup_3, kTup_4, kTup_5, kTup_6, eLst_at, kLst_0, kLst_1, kLst_2, kLst_3, kLst_4, eDic0_at, eCall_at, kCall_some, o1_at, isiO_at, kIsi_some, tyD_non, tyD_bl, tyD_int, tyD_str, tyD_tup, eBM_at, kbm1_some, kbm2_some, eSl_at, ks2_some, ks3_some, ks4_some, oNone_at, oSome_at, kSome_int, slO_str, sSeq_at, kSeq_nx, kSeq_rt, kSeq_bk, kSeq_ct, sNext_at, sBreak_at, sCont_at, sRetN_at, sRet_at, kRet_some, sExpr_at, kExpr_some, sSet_at, kSet_some, sIf_at, kIf_true, kIf_false, sPar2_k, kPar2_some, sPar3_k, kPar3_some, sAsg_at, kAsg_some, kAsg2_some, mName_at, mTup_2, mTup_3, mCons_at, kmCons_some, mNil_at, sPut_at, kp1_some, kp2_some, kp3_some, kp4_some, kFn_rt, kFn_nx, mkFn_0, mkFn_1, mkFn_2, mkFn_3, mkFn_4, mkFn_5, sWhile_at, List.getElem?_cons_zero, List.getElem?_cons_succ, List.set_cons_zero, List.set_cons_succ, List.replicate_succ, List.replicate_zero, Nat.reduceSub, Bool.not_true, Bool.not_false, ite_true, ite_false, if_true, if_false, reduceCtorEq, lenO_lst h, List.length_map, c, decide_false]
theorem cell {st : Sto} {c s : Nat} {cs : List Int} {k : Nat} (hc : rdL st c = some (cs.map D.int)) (hs : myL st s = some [.int (k : Nat)]) (hn : s ≠ c) (hk : k < 1000) (hlen : (cs.length : Int).natAbs.log2 < 9000) :
    ∃ n : Int, 0 ≤ n ∧ n < 306783379 ∧ F_l_cell [.ref c, .ref s] st = some (.int n, st.set s (.lst [.int ((k + 1 : Nat) : Int)])) := by
  have hl : s < st.length := rdL_lt (myL_rdL hs)
  have e0 : ixO (.ref s) (.int 0) st = some (.int (k : Nat)) := by
    rw [ixO_lst (myL_rdL hs)]
    rfl
  have e1 : setO (.ref s) (.int 0) (.int ((k : Int) + 1)) st = some (st.set s (.lst [.int ((k + 1 : Nat) : Int)])) := by
    have := setO_lst (i := 0) (d := .int ((k : Int) + 1)) hs (by simp)
    exact this
  generalize hs' : st.set s (.lst [.int ((k + 1 : Nat) : Int)]) = st' at e1 ⊢
  have hc' : rdL st' c = some (cs.map D.int) := by rw [← hs', rdL_set_ne hn, hc]
  have hm' : myL st' s = some [.int ((k + 1 : Nat) : Int)] := by rw [← hs', myL_set hl]
  have e2 : ixO (.ref s) (.int 0) st' = some (.int ((k + 1 : Nat) : Int)) := by
    rw [ixO_lst (myL_rdL hm')]
    rfl
  have hb : ∀ b : Int, 0 ≤ b * 48271 % 2147483647 / 7 ∧ b * 48271 % 2147483647 / 7 < 306783379 := fun b => by omega
  have m1 : cMul (31 * ((k + 1 : Nat) : Int)) ((k + 1 : Nat) : Int) = true := decide_eq_true (.inr (.inl (by
    have : (2 : Nat) ^ 64 = 18446744073709551616 := by decide
    omega)))
  by_cases hz : 0 < cs.length
  · have c0 : (0 : Int) < (cs.length : Int) := by omega
    have q1 : gMod ((k + 1 : Nat) : Int) (cs.length : Int) = ((k + 1 : Nat) : Int) % (cs.length : Int) := by
      unfold gMod
      rw [if_pos c0]
    have q2 : gDiv ((k + 1 : Nat) : Int) (cs.length : Int) = ((k + 1 : Nat) : Int) / (cs.length : Int) := gDiv_pos c0
    have r0 : 0 ≤ ((k + 1 : Nat) : Int) % (cs.length : Int) := Int.emod_nonneg _ (by omega)
    have r1 : ((k + 1 : Nat) : Int) % (cs.length : Int) < (cs.length : Int) := Int.emod_lt_of_pos _ c0
    obtain ⟨x, _, e3⟩ := atI_in (xs := cs) r0 r1
    have e4 : ixO (.ref c) (.int (((k + 1 : Nat) : Int) % (cs.length : Int))) st' = some (.int x) := by
      rw [ixO_lst hc', atI_map, e3]
      rfl
    have m2 : cMul x (1 + ((k + 1 : Nat) : Int) / (cs.length : Int)) = true := decide_eq_true (.inr (.inl (by
      have : (2 : Nat) ^ 64 = 18446744073709551616 := by decide
      have h4 : 0 ≤ ((k + 1 : Nat) : Int) / (cs.length : Int) := Int.ediv_nonneg (by omega) (by omega)
      have h5 : ((k + 1 : Nat) : Int) / (cs.length : Int) ≤ ((k + 1 : Nat) : Int) := Int.ediv_le_self _ (by omega)
      omega)))
    have m3 : cMod ((k + 1 : Nat) : Int) (cs.length : Int) = true := decide_eq_true (by omega)
    have m4 : cDiv ((k + 1 : Nat) : Int) (cs.length : Int) = true := decide_eq_true ⟨by omega, hlen⟩
    refine ⟨_, (hb (31 * ((k + 1 : Nat) : Int) * ((k + 1 : Nat) : Int) + 7919 * ((k + 1 : Nat) : Int) + x * (1 + ((k + 1 : Nat) : Int) / (cs.length : Int)))).1, (hb _).2, ?_⟩
    simp only [F_l_cell, b_l_cell, eVar_at, kVar_some, eC_at, eBin_at, k2_some, k3_some, eUn_at, k1_some, kVal_some, kBl_some, kEq_at, kBlN_some, kNe_at, kIn_at, kNotIn_at, kIx_at, ixO_tup, kLt_int, kLe_int, kGt_int, kGe_int, kLt_str, kLe_str, kGt_str, kGe_str, kIs_non, kIs_bl, kIs_int, kIs_str, kIs_tup, kIs_ref, kIsNot_non, kIsNot_bl, kIsNot_int, kIsNot_str, kIsNot_tup, kIsNot_ref, opAdd_int, opAdd_str, opSub_int, opMul_int, opDiv_int, opMod_int, opPow_int, opAnd_int, opOr_int, opNeg_int, eChain_at, kc1_some, kc2_some, kc3_true, kc3_false, kc4_some, tOf_at, kTru_some, kTru2_some, truD_non, truD_bl, truD_int, truD_tup, tAnd_at, kAnd_true, kAnd_false, tOr_at, kOr_true, kOr_false, tNot_at, kNot_some, tYes_at, eAnd_at, keAnd_some, keAnd2_true, keAnd2_false, eOr_at, keOr_some, keOr2_true, keOr2_false, eNot_at, keNot_some, keNot2_some, eIf_at, keIf_true, keIf_false, aNil_at, aCons_at, ka1_some, ka2_some, eTup_at, kTup_0, kTup_1, kTup_2, kTup_3, kTup_4, kTup_5, kTup_6, eLst_at, kLst_0, kLst_1, kLst_2, kLst_3, kLst_4, eDic0_at, eCall_at, kCall_some, o1_at, isiO_at, kIsi_some, tyD_non, tyD_bl, tyD_int, tyD_str, tyD_tup, eBM_at, kbm1_some, kbm2_some, eSl_at, ks2_some, ks3_some, ks4_some, oNone_at, oSome_at, kSome_int, slO_str, sSeq_at, kSeq_nx, kSeq_rt, kSeq_bk, kSeq_ct, sNext_at, sBreak_at, sCont_at, sRetN_at, sRet_at, kRet_some, sExpr_at, kExpr_some, sSet_at, kSet_some, sIf_at, kIf_true, kIf_false, sPar2_k, kPar2_some, sPar3_k, kPar3_some, sAsg_at, kAsg_some, kAsg2_some, mName_at, mTup_2, mTup_3, mCons_at, kmCons_some, mNil_at, sPut_at, kp1_some, kp2_some, kp3_some, kp4_some, kFn_rt, kFn_nx, mkFn_0, mkFn_1, mkFn_2, mkFn_3, mkFn_4, mkFn_5, sWhile_at, List.getElem?_cons_zero, List.getElem?_cons_succ, List.set_cons_zero, List.set_cons_succ, List.replicate_succ, List.replicate_zero, Nat.reduceSub, Bool.not_true, Bool.not_false, ite_true, ite_false, if_true, if_false, reduceCtorEq, e0, e1, e2, e4, lenO_lst hc', List.length_map, c0, decide_true, m1, m2, m3, m4, q1, q2, cDv_2, cMd_2, gDv_2, gMd_2, cMr_2, cMl_2, cDv_91, cMd_91, gDv_91, gMd_91, cMr_91, cMl_91, cDv_3, cMd_3, gDv_3, gMd_3, cMr_3, cMl_3, cDv_4, cMd_4, gDv_4, gMd_4, cMr_4, cMl_4, cDv_5, cMd_5, gDv_5, gMd_5, cMr_5, cMl_5, cDv_6, cMd_6, gDv_6, gMd_6, cMr_6, cMl_6, cDv_7, cMd_7, gDv_7, gMd_7, cMr_7, cMl_7, cDv_8, cMd_8, gDv_8, gMd_8, cMr_8, cMl_8, cDv_15, cMd_15, gDv_15, gMd_15, cMr_15, cMl_15, cDv_30, cMd_30, gDv_30, gMd_30, cMr_30, cMl_30, cDv_36, cMd_36, gDv_36, gMd_36, cMr_36, cMl_36, cDv_40, cMd_40, gDv_40, gMd_40, cMr_40, cMl_40, cDv_90, cMd_90, gDv_90, gMd_90, cMr_90, cMl_90, cDv_100, cMd_100, gDv_100, gMd_100, cMr_100, cMl_100, cDv_180, cMd_180, gDv_180, gMd_180, cMr_180, cMl_180, cDv_360, cMd_360, gDv_360, gMd_360, cMr_360, cMl_360, cDv_450, cMd_450, gDv_450, gMd_450, cMr_450, cMl_450, cDv_3150, cMd_3150, gDv_3150, gMd_3150, cMr_3150, cMl_3150, cDv_7000, cMd_7000, gDv_7000, gMd_7000, cMr_7000, cMl_7000, cDv_31, cMd_31, gDv_31, gMd_31, cMr_31, cMl_31, cDv_7919, cMd_7919, gDv_7919, gMd_7919, cMr_7919, cMl_7919, cDv_48271, cMd_48271, gDv_48271, gMd_48271, cMr_48271, cMl_48271, cDv_2147483647, cMd_2147483647, gDv_2147483647, gMd_2147483647, cMr_2147483647, cMl_2147483647]
  · have c0 : ¬ (0 : Int) < (cs.length : Int) := by omega
    refine ⟨_, (hb (31 * ((k + 1 : Nat) : Int) * ((k + 1 : Nat) : Int) + 7919 * ((k + 1 : Nat) : Int))).1, (hb _).2, ?_⟩
    simp only [F_l_cell, b_l_cell, eVar_at, kVar_some, eC_at, eBin_at, k2_some, k3_some, eUn_at, k1_some, kVal_some, kBl_some, kEq_at, kBlN_some, kNe_at, kIn_at, kNotIn_at, kIx_at, ixO_tup, kLt_int, kLe_int, kGt_int, kGe_int, kLt_str, kLe_str, kGt_str, kGe_str, kIs_non, kIs_bl, kIs_int, kIs_str, kIs_tup, kIs_ref, kIsNot_non, kIsNot_bl, kIsNot_int, kIsNot_str, kIsNot_tup, kIsNot_ref, opAdd_int, opAdd_str, opSub_int, opMul_int, opDiv_int, opMod_int, opPow_int, opAnd_int, opOr_int, opNeg_int, eChain_at, kc1_some, kc2_some, kc3_true, kc3_false, kc4_some, tOf_at, kTru_some, kTru2_some, truD_non, truD_bl, truD_int, truD_tup, tAnd_at, kAnd_true, kAnd_false, tOr_at, kOr_true, kOr_false, tNot_at, kNot_some, tYes_at, eAnd_at, keAnd_some, keAnd2_true, keAnd2_false, eOr_at, keOr_some, keOr2_true, keOr2_false, eNot_at, keNot_some, keNot2_some, eIf_at, keIf_true, keIf_false, aNil_at, aCons_at, ka1_some, ka2_some, eTup_at, kTup_0, kTup_1, kTup_2, kTup_3, kTup_4, kTup_5, kTup_6, eLst_at, kLst_0, kLst_1, kLst_2, kLst_3, kLst_4, eDic0_at, eCall_at, kCall_some, o1_at, isiO_at, kIsi_some, tyD_non, tyD_bl, tyD_int, tyD_str, tyD_tup, eBM_at, kbm1_some, kbm2_some, eSl_at, ks2_some, ks3_some, ks4_some, oNone_at, oSome_at, kSome_int, slO_str, sSeq_at, kSeq_nx, kSeq_rt, kSeq_bk, kSeq_ct, sNext_at, sBreak_at, sCont_at, sRetN_at, sRet_at, kRet_some, sExpr_at, kExpr_some, sSet_at, kSet_some, sIf_at, kIf_true, kIf_false, sPar2_k, kPar2_some, sPar3_k, kPar3_some, sAsg_at, kAsg_some, kAsg2_some, mName_at, mTup_2, mTup_3, mCons_at, kmCons_some, mNil_at, sPut_at, kp1_some, kp2_some, kp3_some, kp4_some, kFn_rt, kFn_nx, mkFn_0, mkFn_1, mkFn_2, mkFn_3, mkFn_4, mkFn_5, sWhile_at, List.getElem?_cons_zero, List.getElem?_cons_succ, List.set_cons_zero, List.set_cons_succ, List.replicate_succ, List.replicate_zero, Nat.reduceSub, Bool.not_true, Bool.not_false, ite_true, ite_false, if_true, if_false, reduceCtorEq, e0, e1, e2, lenO_lst hc', List.length_map, c0, decide_false, m1, cDv_2, cMd_2, gDv_2, gMd_2, cMr_2, cMl_2, cDv_91, cMd_91, gDv_91, gMd_91, cMr_91, cMl_91, cDv_3, cMd_3, gDv_3, gMd_3, cMr_3, cMl_3, cDv_4, cMd_4, gDv_4, gMd_4, cMr_4, cMl_4, cDv_5, cMd_5, gDv_5, gMd_5, cMr_5, cMl_5, cDv_6, cMd_6, gDv_6, gMd_6, cMr_6, cMl_6, cDv_7, cMd_7, gDv_7, gMd_7, cMr_7, cMl_7, cDv_8, cMd_8, gDv_8, gMd_8, cMr_8, cMl_8, cDv_15, cMd_15, gDv_15, gMd_15, cMr_15, cMl_15, cDv_30, cMd_30, gDv_30, gMd_30, cMr_30, cMl_30, cDv_36, cMd_36, gDv_36, gMd_36, cMr_36, cMl_36, cDv_40, cMd_40, gDv_40, gMd_40, cMr_40, cMl_40, cDv_90, cMd_90, gDv_90, gMd_90, cMr_90, cMl_90, cDv_100, cMd_100, gDv_100, gMd_100, cMr_100, cMl_100, cDv_180, cMd_180, gDv_180, gMd_180, cMr_180, cMl_180, cDv_360, cMd_360, gDv_360, gMd_360, cMr_360, cMl_360, cDv_450, cMd_450, gDv_450, gMd_450, cMr_450, cMl_450, cDv_3150, cMd_3150, gDv_3150, gMd_3150, cMr_3150, cMl_3150, cDv_7000, cMd_7000, gDv_7000, gMd_7000, cMr_7000, cMl_7000, cDv_31, cMd_31, gDv_31, gMd_31, cMr_31, cMl_31, cDv_7919, cMd_7919, gDv_7919, gMd_7919, cMr_7919, cMl_7919, cDv_48271, cMd_48271, gDv_48271, gMd_48271, cMr_48271, cMl_48271, cDv_2147483647, cMd_2147483647, gDv_2147483647, gMd_2147483647, cMr_2147483647, cMl_2147483647]
/-- 0 <= n < the draws' bound -/
theorem fig_pow : (10 : Int) ^ (30 : Int).toNat = 1000000000000000000000000000000 := by decide
theorem fig_pow2 : (10 : Int) ^ (15 : Int).toNat = 1000000000000000 := by decide
theorem fig_pow3 : (48271 : Int) ^ (5 : Int).toNat = 262078551400494415750351 := by decide +kernel
theorem fig_c1 : cPow 10 30 = true := by decide +kernel
theorem fig_c2 : cPow 10 15 = true := by decide +kernel
theorem fig_c3 : cPow 48271 5 = true := by decide +kernel
theorem fig_c4 (w : Int) : cMod w 1000000000000000000000000000000 = true := decide_eq_true (by decide)
theorem fig_c5 (w : Int) : gMod w 1000000000000000000000000000000 = w % 1000000000000000000000000000000 := by unfold gMod; rw [if_pos (by decide)]
theorem figure (n : Int) (h0 : 0 ≤ n) (h1 : n < 306783379) (st : Sto) : ∃ i g, W.ok (.num i) ∧ F_l_figure [.int n] st = some (.int i, st ++ g) := by
  have m : cMul n 262078551400494415750351 = true := decide_eq_true (.inl (by
    have : (2 : Nat) ^ 64 = 18446744073709551616 := by decide
    omega))
  have r0 : 0 ≤ n % 8 := by omega
  have r1 : n % 8 < 8 := by omega
  obtain ⟨x, hx, e⟩ := atI_in (xs := [D.int (n / 8 % 7 - 3), .int (n / 8 % 100), .int (1000000000000000000000000000000 - n / 8 % 3), .int (0 - (1000000000000000000000000000000 - n / 8 % 3)), .int (1000000000000000 + n / 8 % 5), .int (0 - n / 8), .int 2, .int (n * 262078551400494415750351 % 1000000000000000000000000000000)]) r0 (by simpa using r1)
  have hx' : ∃ i, x = .int i ∧ W.ok (.num i) := by
    simp only [List.mem_cons, List.not_mem_nil, or_false] at hx
    rcases hx with rfl | rfl | rfl | rfl | rfl | rfl | rfl | rfl <;> refine ⟨_, rfl, ?_⟩ <;> show _ ≤ _ ∧ _ ≤ _ <;> omega
  obtain ⟨i, rfl, hi⟩ := hx'
  refine ⟨i, [.lst [D.int (n / 8 % 7 - 3), .int (n / 8 % 100), .int (1000000000000000000000000000000 - n / 8 % 3), .int (0 - (1000000000000000000000000000000 - n / 8 % 3)), .int (1000000000000000 + n / 8 % 5), .int (0 - n / 8), .int 2, .int (n * 262078551400494415750351 % 1000000000000000000000000000000)]], hi, ?_⟩
  simp only [F_l_figure, b_l_figure, eVar_at, kVar_some, eC_at, eBin_at, k2_some, k3_some, eUn_at, k1_some, kVal_some, kBl_some, kEq_at, kBlN_some, kNe_at, kIn_at, kNotIn_at, kIx_at, ixO_tup, kLt_int, kLe_int, kGt_int, kGe_int, kLt_str, kLe_str, kGt_str, kGe_str, kIs_non, kIs_bl, kIs_int, kIs_str, kIs_tup, kIs_ref, kIsNot_non, kIsNot_bl, kIsNot_int, kIsNot_str, kIsNot_tup, kIsNot_ref, opAdd_int, opAdd_str, opSub_int, opMul_int, opDiv_int, opMod_int, opPow_int, opAnd_int, opOr_int, opNeg_int, eChain_at, kc1_some, kc2_some, kc3_true, kc3_false, kc4_some, tOf_at, kTru_some, kTru2_some, truD_non, truD_bl, truD_int, truD_tup, tAnd_at, kAnd_true, kAnd_false, tOr_at, kOr_true, kOr_false, tNot_at, kNot_some, tYes_at, eAnd_at, keAnd_some, keAnd2_true, keAnd2_false, eOr_at, keOr_some, keOr2_true, keOr2_false, eNot_at, keNot_some, keNot2_some, eIf_at, keIf_true, keIf_false, aNil_at, aCons_at, ka1_some, ka2_some, eTup_at, kTup_0, kTup_1, kTup_2, kTup_3, kTup_4, kTup_5, kTup_6, eLst_at, kLst_0, kLst_1, kLst_2, kLst_3, kLst_4, eDic0_at, eCall_at, kCall_some, o1_at, isiO_at, kIsi_some, tyD_non, tyD_bl, tyD_int, tyD_str, tyD_tup, eBM_at, kbm1_some, kbm2_some, eSl_at, ks2_some, ks3_some, ks4_some, oNone_at, oSome_at, kSome_int, slO_str, sSeq_at, kSeq_nx, kSeq_rt, kSeq_bk, kSeq_ct, sNext_at, sBreak_at, sCont_at, sRetN_at, sRet_at, kRet_some, sExpr_at, kExpr_some, sSet_at, kSet_some, sIf_at, kIf_true, kIf_false, sPar2_k, kPar2_some, sPar3_k, kPar3_some, sAsg_at, kAsg_some, kAsg2_some, mName_at, mTup_2, mTup_3, mCons_at, kmCons_some, mNil_at, sPut_at, kp1_some, kp2_some, kp3_some, kp4_some, kFn_rt, kFn_nx, mkFn_0, mkFn_1, mkFn_2, mkFn_3, mkFn_4, mkFn_5, sWhile_at, List.getElem?_cons_zero, List.getElem?_cons_succ, List.set_cons_zero, List.set_cons_succ, List.replicate_succ, List.replicate_zero, Nat.reduceSub, Bool.not_true, Bool.not_false, ite_true, ite_false, if_true, if_false, reduceCtorEq, fig_pow, fig_pow2, fig_pow3, fig_c1, fig_c2, fig_c3, fig_c4, fig_c5, m, kLst_8, ixO_end, e, cDv_2, cMd_2, gDv_2, gMd_2, cMr_2, cMl_2, cDv_91, cMd_91, gDv_91, gMd_91, cMr_91, cMl_91, cDv_3, cMd_3, gDv_3, gMd_3, cMr_3, cMl_3, cDv_4, cMd_4, gDv_4, gMd_4, cMr_4, cMl_4, cDv_5, cMd_5, gDv_5, gMd_5, cMr_5, cMl_5, cDv_6, cMd_6, gDv_6, gMd_6, cMr_6, cMl_6, cDv_7, cMd_7, gDv_7, gMd_7, cMr_7, cMl_7, cDv_8, cMd_8, gDv_8, gMd_8, cMr_8, cMl_8, cDv_15, cMd_15, gDv_15, gMd_15, cMr_15, cMl_15, cDv_30, cMd_30, gDv_30, gMd_30, cMr_30, cMl_30, cDv_36, cMd_36, gDv_36, gMd_36, cMr_36, cMl_36, cDv_40, cMd_40, gDv_40, gMd_40, cMr_40, cMl_40, cDv_90, cMd_90, gDv_90, gMd_90, cMr_90, cMl_90, cDv_100, cMd_100, gDv_100, gMd_100, cMr_100, cMl_100, cDv_180, cMd_180, gDv_180, gMd_180, cMr_180, cMl_180, cDv_360, cMd_360, gDv_360, gMd_360, cMr_360, cMl_360, cDv_450, cMd_450, gDv_450, gMd_450, cMr_450, cMl_450, cDv_3150, cMd_3150, gDv_3150, gMd_3150, cMr_3150, cMl_3150, cDv_7000, cMd_7000, gDv_7000, gMd_7000, cMr_7000, cMl_7000, cDv_31, cMd_31, gDv_31, gMd_31, cMr_31, cMl_31, cDv_7919, cMd_7919, gDv_7919, gMd_7919, cMr_7919, cMl_7919, cDv_48271, cMd_48271, gDv_48271, gMd_48271, cMr_48271, cMl_48271, cDv_2147483647, cMd_2147483647, gDv_2147483647, gMd_2147483647, cMr_2147483647, cMl_2147483647]
abbrev marks : List Nat := [32, 33, 35, 36, 38, 39, 40, 41, 42, 43, 44, 45, 46, 47, 48, 49, 50, 51, 52, 53, 54, 55, 56, 57, 58, 59, 60, 61, 62, 63, 64, 65, 66, 67, 68, 69, 70, 71, 72, 73, 74, 75, 76, 77, 78, 79, 80, 81, 82, 83, 84, 85, 86, 87, 88, 89, 90, 91, 93, 94, 95, 97, 98, 99, 100, 101, 102, 103, 104, 105, 106, 107, 108, 109, 110, 111, 112, 113, 114, 115, 116, 117, 118, 119, 120, 121, 122, 123, 124, 125, 126]
theorem mark {st : Sto} {i : Int} (h0 : 0 ≤ i) (h1 : i < 91) : ∃ c, ixO (.str marks) (.int i) st = some (.str [c]) := by
  obtain ⟨c, _, e⟩ := atI_in (xs := marks) h0 (by
    show i < ((marks.length : Nat) : Int)
    have : marks.length = 91 := by decide +kernel
    omega)
  exact ⟨c, by rw [ixO_str (by decide +kernel), e]; rfl⟩
theorem marks_len (st : Sto) : lenO (.str marks) st = some (.int 91) := by
  have : marks.length = 91 := by decide +kernel
  have h : (91 : Nat) ≤ LIM := by decide
  simp only [lenO, this, h, if_true]
  rfl
noncomputable def pick (n : Int) (d : D) : List Nat := match d with
  | .int k => [(marks.getD ((n / 7000 + 7 * k) % 91).toNat 0)]
  | _ => []
theorem pick_is (n k : Int) (st : Sto) : ixO (.str marks) (.int ((n / 7000 + 7 * k) % 91)) st = some (.str (pick n (.int k))) := by
  have h0 : 0 ≤ (n / 7000 + 7 * k) % 91 := by omega
  have h1 : (n / 7000 + 7 * k) % 91 < 92 := by omega
  have hl : marks.length = 91 := by decide +kernel
  obtain ⟨j, hj⟩ := Int.eq_ofNat_of_zero_le h0
  show _ = some (D.str [marks.getD ((n / 7000 + 7 * k) % 91).toNat 0])
  rw [hj, ixO_str (by decide +kernel), L2.atI_nat (List.getElem?_eq_getElem (by omega)), Int.toNat_natCast, List.getD_eq_getElem?_getD, List.getElem?_eq_getElem (by omega)]
  rfl
theorem flat_len : ∀ ls : List (List Nat), (∀ l ∈ ls, l.length ≤ 1) → ls.flatten.length ≤ ls.length
  | [], _ => Nat.le_refl _
  | l :: r, h => by
    have h1 := h l (.head _)
    have h2 := flat_len r fun x hx => h x (.tail _ hx)
    rw [List.flatten_cons, List.length_append, List.length_cons]
    omega
theorem pick_len (n : Int) (d : D) : (pick n d).length ≤ 1 := by
  cases d <;> simp [pick]
theorem lim_le {k : Nat} (h : k ≤ 1000) : k ≤ LIM := by
  unfold LIM
  omega
theorem text (n : Int) (h0 : 0 ≤ n) (st : Sto) : ∃ l g, l.length ≤ 450 ∧ F_l_text [.int n] st = some (.str l, st ++ g) := by
  have r0 : 0 ≤ n % 6 := by omega
  have r1 : n % 6 < 6 := by omega
  obtain ⟨x, hx, e⟩ := atI_in (xs := [D.int (n / 6 % 4), .int (n / 6 % 4), .int (98 + n / 6 % 4), .int (198 + n / 6 % 3), .int 0, .int (n / 6 % 40)]) r0 (by simpa using r1)
  have hx' : ∃ k : Nat, x = .int (k : Nat) ∧ k ≤ 201 := by
    have z : ∃ i, x = .int i ∧ 0 ≤ i ∧ i ≤ 201 := by
      simp only [List.mem_cons, List.not_mem_nil, or_false] at hx
      rcases hx with rfl | rfl | rfl | rfl | rfl | rfl <;> exact ⟨_, rfl, by omega, by omega⟩
    obtain ⟨i, rfl, i0, i1⟩ := z
    exact ⟨i.toNat, by rw [Int.toNat_of_nonneg i0], by omega⟩
  obtain ⟨k, rfl, hk⟩ := hx'
  generalize hL : ([D.int (n / 6 % 4), .int (n / 6 % 4), .int (98 + n / 6 % 4), .int (198 + n / 6 % 3), .int 0, .int (n / 6 % 40)] : List D) = L at e
  generalize h1 : st ++ [Ob.lst L] = st1
  have ixO_end' : ixO (.ref st.length) (.int (n % 6)) st1 = some (.int (k : Nat)) := by
    rw [← h1]
    exact ixO_end.trans e
  have hK : kLst (some (L, st)) = some (.ref st.length, st1) := by
    rw [← h1, ← hL]
    rfl
  have e1 : eLc [5] (iR1 (aCons (eVar 2) aNil)) (mName 5) tYesM eC_l_text_1 [some (.int n), some (.str marks), some (.int (k : Nat)), some (.int (n / 36 % 5)), none, none] st1
      = some (.ref st1.length, st1 ++ [.lst (((rngD 0 k).map (pick n)).map D.str)]) := by
    rw [List.map_map]
    refine eLc_calm (by simp only [eVar_at, kVar_some, eC_at, eBin_at, k2_some, k3_some, eUn_at, k1_some, kVal_some, kBl_some, kEq_at, kBlN_some, kNe_at, kIn_at, kNotIn_at, kIx_at, ixO_tup, kLt_int, kLe_int, kGt_int, kGe_int, kLt_str, kLe_str, kGt_str, kGe_str, kIs_non, kIs_bl, kIs_int, kIs_str, kIs_tup, kIs_ref, kIsNot_non, kIsNot_bl, kIsNot_int, kIsNot_str, kIsNot_tup, kIsNot_ref, opAdd_int, opAdd_str, opSub_int, opMul_int, opDiv_int, opMod_int, opPow_int, opAnd_int, opOr_int, opNeg_int, eChain_at, kc1_some, kc2_some, kc3_true, kc3_false, kc4_some, tOf_at, kTru_some, kTru2_some, truD_non, truD_bl, truD_int, truD_tup, tAnd_at, kAnd_true, kAnd_false, tOr_at, kOr_true, kOr_false, tNot_at, kNot_some, tYes_at, eAnd_at, keAnd_some, keAnd2_true, keAnd2_false, eOr_at, keOr_some, keOr2_true, keOr2_false, eNot_at, keNot_some, keNot2_some, eIf_at, keIf_true, keIf_false, aNil_at, aCons_at, ka1_some, ka2_some, eTup_at, kTup_0, kTup_1, kTup_2, kTup_3, kTup_4, kTup_5, kTup_6, eLst_at, kLst_0, kLst_1, kLst_2, kLst_3, kLst_4, eDic0_at, eCall_at, kCall_some, o1_at, isiO_at, kIsi_some, tyD_non, tyD_bl, tyD_int, tyD_str, tyD_tup, eBM_at, kbm1_some, kbm2_some, eSl_at, ks2_some, ks3_some, ks4_some, oNone_at, oSome_at, kSome_int, slO_str, sSeq_at, kSeq_nx, kSeq_rt, kSeq_bk, kSeq_ct, sNext_at, sBreak_at, sCont_at, sRetN_at, sRet_at, kRet_some, sExpr_at, kExpr_some, sSet_at, kSet_some, sIf_at, kIf_true, kIf_false, sPar2_k, kPar2_some, sPar3_k, kPar3_some, sAsg_at, kAsg_some, kAsg2_some, mName_at, mTup_2, mTup_3, mCons_at, kmCons_some, mNil_at, sPut_at, kp1_some, kp2_some, kp3_some, kp4_some, kFn_rt, kFn_nx, mkFn_0, mkFn_1, mkFn_2, mkFn_3, mkFn_4, mkFn_5, sWhile_at, List.getElem?_cons_zero, List.getElem?_cons_succ, List.set_cons_zero, List.set_cons_succ, List.replicate_succ, List.replicate_zero, Nat.reduceSub, Bool.not_true, Bool.not_false, ite_true, ite_false, if_true, if_false, reduceCtorEq, iR1_at, kR1_some (lim_le (show k ≤ 1000 by omega))]) (by rw [rngD_length]; exact lim_le (by omega)) fun d hd acc => ?_
    obtain ⟨j, hj, rfl⟩ := rngD_mem hd
    refine ⟨_, rfl, ?_⟩
    simp only [eC_l_text_1, wipeD, eVar_at, kVar_some, eC_at, eBin_at, k2_some, k3_some, eUn_at, k1_some, kVal_some, kBl_some, kEq_at, kBlN_some, kNe_at, kIn_at, kNotIn_at, kIx_at, ixO_tup, kLt_int, kLe_int, kGt_int, kGe_int, kLt_str, kLe_str, kGt_str, kGe_str, kIs_non, kIs_bl, kIs_int, kIs_str, kIs_tup, kIs_ref, kIsNot_non, kIsNot_bl, kIsNot_int, kIsNot_str, kIsNot_tup, kIsNot_ref, opAdd_int, opAdd_str, opSub_int, opMul_int, opDiv_int, opMod_int, opPow_int, opAnd_int, opOr_int, opNeg_int, eChain_at, kc1_some, kc2_some, kc3_true, kc3_false, kc4_some, tOf_at, kTru_some, kTru2_some, truD_non, truD_bl, truD_int, truD_tup, tAnd_at, kAnd_true, kAnd_false, tOr_at, kOr_true, kOr_false, tNot_at, kNot_some, tYes_at, eAnd_at, keAnd_some, keAnd2_true, keAnd2_false, eOr_at, keOr_some, keOr2_true, keOr2_false, eNot_at, keNot_some, keNot2_some, eIf_at, keIf_true, keIf_false, aNil_at, aCons_at, ka1_some, ka2_some, eTup_at, kTup_0, kTup_1, kTup_2, kTup_3, kTup_4, kTup_5, kTup_6, eLst_at, kLst_0, kLst_1, kLst_2, kLst_3, kLst_4, eDic0_at, eCall_at, kCall_some, o1_at, isiO_at, kIsi_some, tyD_non, tyD_bl, tyD_int, tyD_str, tyD_tup, eBM_at, kbm1_some, kbm2_some, eSl_at, ks2_some, ks3_some, ks4_some, oNone_at, oSome_at, kSome_int, slO_str, sSeq_at, kSeq_nx, kSeq_rt, kSeq_bk, kSeq_ct, sNext_at, sBreak_at, sCont_at, sRetN_at, sRet_at, kRet_some, sExpr_at, kExpr_some, sSet_at, kSet_some, sIf_at, kIf_true, kIf_false, sPar2_k, kPar2_some, sPar3_k, kPar3_some, sAsg_at, kAsg_some, kAsg2_some, mName_at, mTup_2, mTup_3, mCons_at, kmCons_some, mNil_at, sPut_at, kp1_some, kp2_some, kp3_some, kp4_some, kFn_rt, kFn_nx, mkFn_0, mkFn_1, mkFn_2, mkFn_3, mkFn_4, mkFn_5, sWhile_at, List.getElem?_cons_zero, List.getElem?_cons_succ, List.set_cons_zero, List.set_cons_succ, List.replicate_succ, List.replicate_zero, Nat.reduceSub, Bool.not_true, Bool.not_false, ite_true, ite_false, if_true, if_false, reduceCtorEq, marks_len, pick_is, Function.comp, cDv_2, cMd_2, gDv_2, gMd_2, cMr_2, cMl_2, cDv_91, cMd_91, gDv_91, gMd_91, cMr_91, cMl_91, cDv_3, cMd_3, gDv_3, gMd_3, cMr_3, cMl_3, cDv_4, cMd_4, gDv_4, gMd_4, cMr_4, cMl_4, cDv_5, cMd_5, gDv_5, gMd_5, cMr_5, cMl_5, cDv_6, cMd_6, gDv_6, gMd_6, cMr_6, cMl_6, cDv_7, cMd_7, gDv_7, gMd_7, cMr_7, cMl_7, cDv_8, cMd_8, gDv_8, gMd_8, cMr_8, cMl_8, cDv_15, cMd_15, gDv_15, gMd_15, cMr_15, cMl_15, cDv_30, cMd_30, gDv_30, gMd_30, cMr_30, cMl_30, cDv_36, cMd_36, gDv_36, gMd_36, cMr_36, cMl_36, cDv_40, cMd_40, gDv_40, gMd_40, cMr_40, cMl_40, cDv_90, cMd_90, gDv_90, gMd_90, cMr_90, cMl_90, cDv_100, cMd_100, gDv_100, gMd_100, cMr_100, cMl_100, cDv_180, cMd_180, gDv_180, gMd_180, cMr_180, cMl_180, cDv_360, cMd_360, gDv_360, gMd_360, cMr_360, cMl_360, cDv_450, cMd_450, gDv_450, gMd_450, cMr_450, cMl_450, cDv_3150, cMd_3150, gDv_3150, gMd_3150, cMr_3150, cMl_3150, cDv_7000, cMd_7000, gDv_7000, gMd_7000, cMr_7000, cMl_7000, cDv_31, cMd_31, gDv_31, gMd_31, cMr_31, cMl_31, cDv_7919, cMd_7919, gDv_7919, gMd_7919, cMr_7919, cMl_7919, cDv_48271, cMd_48271, gDv_48271, gMd_48271, cMr_48271, cMl_48271, cDv_2147483647, cMd_2147483647, gDv_2147483647, gMd_2147483647, cMr_2147483647, cMl_2147483647]
  have hls : ((rngD 0 k).map (pick n)).flatten.length ≤ k := by
    have := flat_len ((rngD 0 k).map (pick n)) fun l hl => by
      obtain ⟨d, _, rfl⟩ := List.mem_map.mp hl
      exact pick_len n d
    rwa [List.length_map, rngD_length] at this
  have e2 : joinM (.str []) [.ref st1.length] (st1 ++ [.lst (((rngD 0 k).map (pick n)).map D.str)]) = some (.str ((rngD 0 k).map (pick n)).flatten, st1 ++ [.lst (((rngD 0 k).map (pick n)).map D.str)]) := by
    have := join_end (st := st1) (g := []) (s := []) (ls := (rngD 0 k).map (pick n)) (by
      rw [List.length_flatten] at hls
      simp only [List.length_nil, Nat.mul_zero]
      omega)
    rw [joinD_nil] at this
    exact this
  generalize ((rngD 0 k).map (pick n)).flatten = w at e2 hls
  generalize hO : Ob.lst (((rngD 0 k).map (pick n)).map D.str) = o at e1 e2
  have e3 : ∀ s : Sto, isS s (.str []) = true := fun _ => rfl
  by_cases c1 : n / 180 % 2 = 1
  · by_cases c2 : n / 36 % 5 < (k : Int)
    · obtain ⟨c, e4⟩ := mark (st := st1 ++ [o]) (i := n / 360 % 91) (by omega) (by omega)
      have l1 := cutG_len w none (some (n / 36 % 5))
      have l2 := cutG_len w (some (n / 36 % 5 + 1)) none
      have q1 : w.length ≤ LIM := lim_le (by omega)
      have q2 : (cutG w none (some (n / 36 % 5))).length + [c].length ≤ LIM := lim_le (by simp only [List.length_singleton]; omega)
      have q3 : (cutG w none (some (n / 36 % 5)) ++ [c]).length + (cutG w (some (n / 36 % 5 + 1)) none).length ≤ LIM := lim_le (by simp only [List.length_append, List.length_singleton]; omega)
      refine ⟨cutG w none (some (n / 36 % 5)) ++ [c] ++ cutG w (some (n / 36 % 5 + 1)) none, [.lst L, o], by simp only [List.length_append, List.length_singleton]; omega, ?_⟩
      simp only [F_l_text, b_l_text, eVar_at, kVar_some, eC_at, eBin_at, k2_some, k3_some, eUn_at, k1_some, kVal_some, kBl_some, kEq_at, kBlN_some, kNe_at, kIn_at, kNotIn_at, kIx_at, ixO_tup, kLt_int, kLe_int, kGt_int, kGe_int, kLt_str, kLe_str, kGt_str, kGe_str, kIs_non, kIs_bl, kIs_int, kIs_str, kIs_tup, kIs_ref, kIsNot_non, kIsNot_bl, kIsNot_int, kIsNot_str, kIsNot_tup, kIsNot_ref, opAdd_int, opAdd_str, opSub_int, opMul_int, opDiv_int, opMod_int, opPow_int, opAnd_int, opOr_int, opNeg_int, eChain_at, kc1_some, kc2_some, kc3_true, kc3_false, kc4_some, tOf_at, kTru_some, kTru2_some, truD_non, truD_bl, truD_int, truD_tup, tAnd_at, kAnd_true, kAnd_false, tOr_at, kOr_true, kOr_false, tNot_at, kNot_some, tYes_at, eAnd_at, keAnd_some, keAnd2_true, keAnd2_false, eOr_at, keOr_some, keOr2_true, keOr2_false, eNot_at, keNot_some, keNot2_some, eIf_at, keIf_true, keIf_false, aNil_at, aCons_at, ka1_some, ka2_some, eTup_at, kTup_0, kTup_1, kTup_2, kTup_3, kTup_4, kTup_5, kTup_6, eLst_at, kLst_0, kLst_1, kLst_2, kLst_3, kLst_4, eDic0_at, eCall_at, kCall_some, o1_at, isiO_at, kIsi_some, tyD_non, tyD_bl, tyD_int, tyD_str, tyD_tup, eBM_at, kbm1_some, kbm2_some, eSl_at, ks2_some, ks3_some, ks4_some, oNone_at, oSome_at, kSome_int, slO_str, sSeq_at, kSeq_nx, kSeq_rt, kSeq_bk, kSeq_ct, sNext_at, sBreak_at, sCont_at, sRetN_at, sRet_at, kRet_some, sExpr_at, kExpr_some, sSet_at, kSet_some, sIf_at, kIf_true, kIf_false, sPar2_k, kPar2_some, sPar3_k, kPar3_some, sAsg_at, kAsg_some, kAsg2_some, mName_at, mTup_2, mTup_3, mCons_at, kmCons_some, mNil_at, sPut_at, kp1_some, kp2_some, kp3_some, kp4_some, kFn_rt, kFn_nx, mkFn_0, mkFn_1, mkFn_2, mkFn_3, mkFn_4, mkFn_5, sWhile_at, List.getElem?_cons_zero, List.getElem?_cons_succ, List.set_cons_zero, List.set_cons_succ, List.replicate_succ, List.replicate_zero, Nat.reduceSub, Bool.not_true, Bool.not_false, ite_true, ite_false, if_true, if_false, reduceCtorEq, hK, hL, h1, ixO_end', e, e1, e2, e3, e4, c1, c2, marks_len, eqO_int, beq_self_eq_true, decide_true, q1, q2, q3, cDv_2, cMd_2, gDv_2, gMd_2, cMr_2, cMl_2, cDv_91, cMd_91, gDv_91, gMd_91, cMr_91, cMl_91, cDv_3, cMd_3, gDv_3, gMd_3, cMr_3, cMl_3, cDv_4, cMd_4, gDv_4, gMd_4, cMr_4, cMl_4, cDv_5, cMd_5, gDv_5, gMd_5, cMr_5, cMl_5, cDv_6, cMd_6, gDv_6, gMd_6, cMr_6, cMl_6, cDv_7, cMd_7, gDv_7, gMd_7, cMr_7, cMl_7, cDv_8, cMd_8, gDv_8, gMd_8, cMr_8, cMl_8, cDv_15, cMd_15, gDv_15, gMd_15, cMr_15, cMl_15, cDv_30, cMd_30, gDv_30, gMd_30, cMr_30, cMl_30, cDv_36, cMd_36, gDv_36, gMd_36, cMr_36, cMl_36, cDv_40, cMd_40, gDv_40, gMd_40, cMr_40, cMl_40, cDv_90, cMd_90, gDv_90, gMd_90, cMr_90, cMl_90, cDv_100, cMd_100, gDv_100, gMd_100, cMr_100, cMl_100, cDv_180, cMd_180, gDv_180, gMd_180, cMr_180, cMl_180, cDv_360, cMd_360, gDv_360, gMd_360, cMr_360, cMl_360, cDv_450, cMd_450, gDv_450, gMd_450, cMr_450, cMl_450, cDv_3150, cMd_3150, gDv_3150, gMd_3150, cMr_3150, cMl_3150, cDv_7000, cMd_7000, gDv_7000, gMd_7000, cMr_7000, cMl_7000, cDv_31, cMd_31, gDv_31, gMd_31, cMr_31, cMl_31, cDv_7919, cMd_7919, gDv_7919, gMd_7919, cMr_7919, cMl_7919, cDv_48271, cMd_48271, gDv_48271, gMd_48271, cMr_48271, cMl_48271, cDv_2147483647, cMd_2147483647, gDv_2147483647, gMd_2147483647, cMr_2147483647, cMl_2147483647]
      rw [← h1, List.append_assoc st]
      rfl
    · refine ⟨w, [.lst L, o], by omega, ?_⟩
      simp only [F_l_text, b_l_text, eVar_at, kVar_some, eC_at, eBin_at, k2_some, k3_some, eUn_at, k1_some, kVal_some, kBl_some, kEq_at, kBlN_some, kNe_at, kIn_at, kNotIn_at, kIx_at, ixO_tup, kLt_int, kLe_int, kGt_int, kGe_int, kLt_str, kLe_str, kGt_str, kGe_str, kIs_non, kIs_bl, kIs_int, kIs_str, kIs_tup, kIs_ref, kIsNot_non, kIsNot_bl, kIsNot_int, kIsNot_str, kIsNot_tup, kIsNot_ref, opAdd_int, opAdd_str, opSub_int, opMul_int, opDiv_int, opMod_int, opPow_int, opAnd_int, opOr_int, opNeg_int, eChain_at, kc1_some, kc2_some, kc3_true, kc3_false, kc4_some, tOf_at, kTru_some, kTru2_some, truD_non, truD_bl, truD_int, truD_tup, tAnd_at, kAnd_true, kAnd_false, tOr_at, kOr_true, kOr_false, tNot_at, kNot_some, tYes_at, eAnd_at, keAnd_some, keAnd2_true, keAnd2_false, eOr_at, keOr_some, keOr2_true, keOr2_false, eNot_at, keNot_some, keNot2_some, eIf_at, keIf_true, keIf_false, aNil_at, aCons_at, ka1_some, ka2_some, eTup_at, kTup_0, kTup_1, kTup_2, kTup_3, kTup_4, kTup_5, kTup_6, eLst_at, kLst_0, kLst_1, kLst_2, kLst_3, kLst_4, eDic0_at, eCall_at, kCall_some, o1_at, isiO_at, kIsi_some, tyD_non, tyD_bl, tyD_int, tyD_str, tyD_tup, eBM_at, kbm1_some, kbm2_some, eSl_at, ks2_some, ks3_some, ks4_some, oNone_at, oSome_at, kSome_int, slO_str, sSeq_at, kSeq_nx, kSeq_rt, kSeq_bk, kSeq_ct, sNext_at, sBreak_at, sCont_at, sRetN_at, sRet_at, kRet_some, sExpr_at, kExpr_some, sSet_at, kSet_some, sIf_at, kIf_true, kIf_false, sPar2_k, kPar2_some, sPar3_k, kPar3_some, sAsg_at, kAsg_some, kAsg2_some, mName_at, mTup_2, mTup_3, mCons_at, kmCons_some, mNil_at, sPut_at, kp1_some, kp2_some, kp3_some, kp4_some, kFn_rt, kFn_nx, mkFn_0, mkFn_1, mkFn_2, mkFn_3, mkFn_4, mkFn_5, sWhile_at, List.getElem?_cons_zero, List.getElem?_cons_succ, List.set_cons_zero, List.set_cons_succ, List.replicate_succ, List.replicate_zero, Nat.reduceSub, Bool.not_true, Bool.not_false, ite_true, ite_false, if_true, if_false, reduceCtorEq, hK, hL, h1, ixO_end', e, e1, e2, e3, c1, c2, marks_len, eqO_int, beq_self_eq_true, decide_false, cDv_2, cMd_2, gDv_2, gMd_2, cMr_2, cMl_2, cDv_91, cMd_91, gDv_91, gMd_91, cMr_91, cMl_91, cDv_3, cMd_3, gDv_3, gMd_3, cMr_3, cMl_3, cDv_4, cMd_4, gDv_4, gMd_4, cMr_4, cMl_4, cDv_5, cMd_5, gDv_5, gMd_5, cMr_5, cMl_5, cDv_6, cMd_6, gDv_6, gMd_6, cMr_6, cMl_6, cDv_7, cMd_7, gDv_7, gMd_7, cMr_7, cMl_7, cDv_8, cMd_8, gDv_8, gMd_8, cMr_8, cMl_8, cDv_15, cMd_15, gDv_15, gMd_15, cMr_15, cMl_15, cDv_30, cMd_30, gDv_30, gMd_30, cMr_30, cMl_30, cDv_36, cMd_36, gDv_36, gMd_36, cMr_36, cMl_36, cDv_40, cMd_40, gDv_40, gMd_40, cMr_40, cMl_40, cDv_90, cMd_90, gDv_90, gMd_90, cMr_90, cMl_90, cDv_100, cMd_100, gDv_100, gMd_100, cMr_100, cMl_100, cDv_180, cMd_180, gDv_180, gMd_180, cMr_180, cMl_180, cDv_360, cMd_360, gDv_360, gMd_360, cMr_360, cMl_360, cDv_450, cMd_450, gDv_450, gMd_450, cMr_450, cMl_450, cDv_3150, cMd_3150, gDv_3150, gMd_3150, cMr_3150, cMl_3150, cDv_7000, cMd_7000, gDv_7000, gMd_7000, cMr_7000, cMl_7000, cDv_31, cMd_31, gDv_31, gMd_31, cMr_31, cMl_31, cDv_7919, cMd_7919, gDv_7919, gMd_7919, cMr_7919, cMl_7919, cDv_48271, cMd_48271, gDv_48271, gMd_48271, cMr_48271, cMl_48271, cDv_2147483647, cMd_2147483647, gDv_2147483647, gMd_2147483647, cMr_2147483647, cMl_2147483647]
      rw [← h1, List.append_assoc]
      rfl
  · have c1' : (n / 180 % 2 == 1) = false := beq_eq_false_iff_ne.mpr c1
    refine ⟨w, [.lst L, o], by omega, ?_⟩
    simp only [F_l_text, b_l_text, eVar_at, kVar_some, eC_at, eBin_at, k2_some, k3_some, eUn_at, k1_some, kVal_some, kBl_some, kEq_at, kBlN_some, kNe_at, kIn_at, kNotIn_at, kIx_at, ixO_tup, kLt_int, kLe_int, kGt_int, kGe_int, kLt_str, kLe_str, kGt_str, kGe_str, kIs_non, kIs_bl, kIs_int, kIs_str, kIs_tup, kIs_ref, kIsNot_non, kIsNot_bl, kIsNot_int, kIsNot_str, kIsNot_tup, kIsNot_ref, opAdd_int, opAdd_str, opSub_int, opMul_int, opDiv_int, opMod_int, opPow_int, opAnd_int, opOr_int, opNeg_int, eChain_at, kc1_some, kc2_some, kc3_true, kc3_false, kc4_some, tOf_at, kTru_some, kTru2_some, truD_non, truD_bl, truD_int, truD_tup, tAnd_at, kAnd_true, kAnd_false, tOr_at, kOr_true, kOr_false, tNot_at, kNot_some, tYes_at, eAnd_at, keAnd_some, keAnd2_true, keAnd2_false, eOr_at, keOr_some, keOr2_true, keOr2_false, eNot_at, keNot_some, keNot2_some, eIf_at, keIf_true, keIf_false, aNil_at, aCons_at, ka1_some, ka2_some, eTup_at, kTup_0, kTup_1, kTup_2, kTup_3, kTup_4, kTup_5, kTup_6, eLst_at, kLst_0, kLst_1, kLst_2, kLst_3, kLst_4, eDic0_at, eCall_at, kCall_some, o1_at, isiO_at, kIsi_some, tyD_non, tyD_bl, tyD_int, tyD_str, tyD_tup, eBM_at, kbm1_some, kbm2_some, eSl_at, ks2_some, ks3_some, ks4_some, oNone_at, oSome_at, kSome_int, slO_str, sSeq_at, kSeq_nx, kSeq_rt, kSeq_bk, kSeq_ct, sNext_at, sBreak_at, sCont_at, sRetN_at, sRet_at, kRet_some, sExpr_at, kExpr_some, sSet_at, kSet_some, sIf_at, kIf_true, kIf_false, sPar2_k, kPar2_some, sPar3_k, kPar3_some, sAsg_at, kAsg_some, kAsg2_some, mName_at, mTup_2, mTup_3, mCons_at, kmCons_some, mNil_at, sPut_at, kp1_some, kp2_some, kp3_some, kp4_some, kFn_rt, kFn_nx, mkFn_0, mkFn_1, mkFn_2, mkFn_3, mkFn_4, mkFn_5, sWhile_at, List.getElem?_cons_zero, List.getElem?_cons_succ, List.set_cons_zero, List.set_cons_succ, List.replicate_succ, List.replicate_zero, Nat.reduceSub, Bool.not_true, Bool.not_false, ite_true, ite_false, if_true, if_false, reduceCtorEq, hK, hL, h1, ixO_end', e, e1, e2, e3, c1', marks_len, eqO_int, cDv_2, cMd_2, gDv_2, gMd_2, cMr_2, cMl_2, cDv_91, cMd_91, gDv_91, gMd_91, cMr_91, cMl_91, cDv_3, cMd_3, gDv_3, gMd_3, cMr_3, cMl_3, cDv_4, cMd_4, gDv_4, gMd_4, cMr_4, cMl_4, cDv_5, cMd_5, gDv_5, gMd_5, cMr_5, cMl_5, cDv_6, cMd_6, gDv_6, gMd_6, cMr_6, cMl_6, cDv_7, cMd_7, gDv_7, gMd_7, cMr_7, cMl_7, cDv_8, cMd_8, gDv_8, gMd_8, cMr_8, cMl_8, cDv_15, cMd_15, gDv_15, gMd_15, cMr_15, cMl_15, cDv_30, cMd_30, gDv_30, gMd_30, cMr_30, cMl_30, cDv_36, cMd_36, gDv_36, gMd_36, cMr_36, cMl_36, cDv_40, cMd_40, gDv_40, gMd_40, cMr_40, cMl_40, cDv_90, cMd_90, gDv_90, gMd_90, cMr_90, cMl_90, cDv_100, cMd_100, gDv_100, gMd_100, cMr_100, cMl_100, cDv_180, cMd_180, gDv_180, gMd_180, cMr_180, cMl_180, cDv_360, cMd_360, gDv_360, gMd_360, cMr_360, cMl_360, cDv_450, cMd_450, gDv_450, gMd_450, cMr_450, cMl_450, cDv_3150, cMd_3150, gDv_3150, gMd_3150, cMr_3150, cMl_3150, cDv_7000, cMd_7000, gDv_7000, gMd_7000, cMr_7000, cMl_7000, cDv_31, cMd_31, gDv_31, gMd_31, cMr_31, cMl_31, cDv_7919, cMd_7919, gDv_7919, gMd_7919, cMr_7919, cMl_7919, cDv_48271, cMd_48271, gDv_48271, gMd_48271, cMr_48271, cMl_48271, cDv_2147483647, cMd_2147483647, gDv_2147483647, gMd_2147483647, cMr_2147483647, cMl_2147483647]
    rw [← h1, List.append_assoc]
    rfl
/-- the values drawn: texts not too long -/
def W.small : W → Prop
  | .txt l => l.length ≤ 450
  | w => w.ok
theorem W.small.ok {w : W} (h : w.small) : w.ok := by
  cases w with
  | txt l =>
    have : l.length ≤ 450 := h
    show l.length ≤ 1000
    omega
  | _ => exact h
theorem value (n k : Int) (h0 : 0 ≤ n) (h1 : n < 306783379) (st : Sto) : ∃ w g, W.small w ∧ F_l_value [.int n, .int k] st = some (w.d, st ++ g) := by
  by_cases k0 : k = 0
  · subst k0
    obtain ⟨i, g, hi, e⟩ := figure n h0 h1 st
    exact ⟨.num i, g, hi, by simp only [F_l_value, b_l_value, eVar_at, kVar_some, eC_at, eBin_at, k2_some, k3_some, eUn_at, k1_some, kVal_some, kBl_some, kEq_at, kBlN_some, kNe_at, kIn_at, kNotIn_at, kIx_at, ixO_tup, kLt_int, kLe_int, kGt_int, kGe_int, kLt_str, kLe_str, kGt_str, kGe_str, kIs_non, kIs_bl, kIs_int, kIs_str, kIs_tup, kIs_ref, kIsNot_non, kIsNot_bl, kIsNot_int, kIsNot_str, kIsNot_tup, kIsNot_ref, opAdd_int, opAdd_str, opSub_int, opMul_int, opDiv_int, opMod_int, opPow_int, opAnd_int, opOr_int, opNeg_int, eChain_at, kc1_some, kc2_some, kc3_true, kc3_false, kc4_some, tOf_at, kTru_some, kTru2_some, truD_non, truD_bl, truD_int, truD_tup, tAnd_at, kAnd_true, kAnd_false, tOr_at, kOr_true, kOr_false, tNot_at, kNot_some, tYes_at, eAnd_at, keAnd_some, keAnd2_true, keAnd2_false, eOr_at, keOr_some, keOr2_true, keOr2_false, eNot_at, keNot_some, keNot2_some, eIf_at, keIf_true, keIf_false, aNil_at, aCons_at, ka1_some, ka2_some, eTup_at, kTup_0, kTup_1, kTup_2, kTup_3, kTup_4, kTup_5, kTup_6, eLst_at, kLst_0, kLst_1, kLst_2, kLst_3, kLst_4, eDic0_at, eCall_at, kCall_some, o1_at, isiO_at, kIsi_some, tyD_non, tyD_bl, tyD_int, tyD_str, tyD_tup, eBM_at, kbm1_some, kbm2_some, eSl_at, ks2_some, ks3_some, ks4_some, oNone_at, oSome_at, kSome_int, slO_str, sSeq_at, kSeq_nx, kSeq_rt, kSeq_bk, kSeq_ct, sNext_at, sBreak_at, sCont_at, sRetN_at, sRet_at, kRet_some, sExpr_at, kExpr_some, sSet_at, kSet_some, sIf_at, kIf_true, kIf_false, sPar2_k, kPar2_some, sPar3_k, kPar3_some, sAsg_at, kAsg_some, kAsg2_some, mName_at, mTup_2, mTup_3, mCons_at, kmCons_some, mNil_at, sPut_at, kp1_some, kp2_some, kp3_some, kp4_some, kFn_rt, kFn_nx, mkFn_0, mkFn_1, mkFn_2, mkFn_3, mkFn_4, mkFn_5, sWhile_at, List.getElem?_cons_zero, List.getElem?_cons_succ, List.set_cons_zero, List.set_cons_succ, List.replicate_succ, List.replicate_zero, Nat.reduceSub, Bool.not_true, Bool.not_false, ite_true, ite_false, if_true, if_false, reduceCtorEq, eqO_int, beq_self_eq_true, e]⟩
  have z0 : (k == 0) = false := beq_eq_false_iff_ne.mpr k0
  by_cases k1 : k = 1
  · subst k1
    obtain ⟨i, g, hi, e⟩ := text n h0 st
    exact ⟨.txt i, g, hi, by simp only [F_l_value, b_l_value, eVar_at, kVar_some, eC_at, eBin_at, k2_some, k3_some, eUn_at, k1_some, kVal_some, kBl_some, kEq_at, kBlN_some, kNe_at, kIn_at, kNotIn_at, kIx_at, ixO_tup, kLt_int, kLe_int, kGt_int, kGe_int, kLt_str, kLe_str, kGt_str, kGe_str, kIs_non, kIs_bl, kIs_int, kIs_str, kIs_tup, kIs_ref, kIsNot_non, kIsNot_bl, kIsNot_int, kIsNot_str, kIsNot_tup, kIsNot_ref, opAdd_int, opAdd_str, opSub_int, opMul_int, opDiv_int, opMod_int, opPow_int, opAnd_int, opOr_int, opNeg_int, eChain_at, kc1_some, kc2_some, kc3_true, kc3_false, kc4_some, tOf_at, kTru_some, kTru2_some, truD_non, truD_bl, truD_int, truD_tup, tAnd_at, kAnd_true, kAnd_false, tOr_at, kOr_true, kOr_false, tNot_at, kNot_some, tYes_at, eAnd_at, keAnd_some, keAnd2_true, keAnd2_false, eOr_at, keOr_some, keOr2_true, keOr2_false, eNot_at, keNot_some, keNot2_some, eIf_at, keIf_true, keIf_false, aNil_at, aCons_at, ka1_some, ka2_some, eTup_at, kTup_0, kTup_1, kTup_2, kTup_3, kTup_4, kTup_5, kTup_6, eLst_at, kLst_0, kLst_1, kLst_2, kLst_3, kLst_4, eDic0_at, eCall_at, kCall_some, o1_at, isiO_at, kIsi_some, tyD_non, tyD_bl, tyD_int, tyD_str, tyD_tup, eBM_at, kbm1_some, kbm2_some, eSl_at, ks2_some, ks3_some, ks4_some, oNone_at, oSome_at, kSome_int, slO_str, sSeq_at, kSeq_nx, kSeq_rt, kSeq_bk, kSeq_ct, sNext_at, sBreak_at, sCont_at, sRetN_at, sRet_at, kRet_some, sExpr_at, kExpr_some, sSet_at, kSet_some, sIf_at, kIf_true, kIf_false, sPar2_k, kPar2_some, sPar3_k, kPar3_some, sAsg_at, kAsg_some, kAsg2_some, mName_at, mTup_2, mTup_3, mCons_at, kmCons_some, mNil_at, sPut_at, kp1_some, kp2_some, kp3_some, kp4_some, kFn_rt, kFn_nx, mkFn_0, mkFn_1, mkFn_2, mkFn_3, mkFn_4, mkFn_5, sWhile_at, List.getElem?_cons_zero, List.getElem?_cons_succ, List.set_cons_zero, List.set_cons_succ, List.replicate_succ, List.replicate_zero, Nat.reduceSub, Bool.not_true, Bool.not_false, ite_true, ite_false, if_true, if_false, reduceCtorEq, eqO_int, beq_self_eq_true, z0, e]⟩
  have z1 : (k == 1) = false := beq_eq_false_iff_ne.mpr k1
  by_cases k2 : k = 2
  · subst k2
    exact ⟨.tru (n % 2 == 1), [], trivial, by simp only [F_l_value, b_l_value, eVar_at, kVar_some, eC_at, eBin_at, k2_some, k3_some, eUn_at, k1_some, kVal_some, kBl_some, kEq_at, kBlN_some, kNe_at, kIn_at, kNotIn_at, kIx_at, ixO_tup, kLt_int, kLe_int, kGt_int, kGe_int, kLt_str, kLe_str, kGt_str, kGe_str, kIs_non, kIs_bl, kIs_int, kIs_str, kIs_tup, kIs_ref, kIsNot_non, kIsNot_bl, kIsNot_int, kIsNot_str, kIsNot_tup, kIsNot_ref, opAdd_int, opAdd_str, opSub_int, opMul_int, opDiv_int, opMod_int, opPow_int, opAnd_int, opOr_int, opNeg_int, eChain_at, kc1_some, kc2_some, kc3_true, kc3_false, kc4_some, tOf_at, kTru_some, kTru2_some, truD_non, truD_bl, truD_int, truD_tup, tAnd_at, kAnd_true, kAnd_false, tOr_at, kOr_true, kOr_false, tNot_at, kNot_some, tYes_at, eAnd_at, keAnd_some, keAnd2_true, keAnd2_false, eOr_at, keOr_some, keOr2_true, keOr2_false, eNot_at, keNot_some, keNot2_some, eIf_at, keIf_true, keIf_false, aNil_at, aCons_at, ka1_some, ka2_some, eTup_at, kTup_0, kTup_1, kTup_2, kTup_3, kTup_4, kTup_5, kTup_6, eLst_at, kLst_0, kLst_1, kLst_2, kLst_3, kLst_4, eDic0_at, eCall_at, kCall_some, o1_at, isiO_at, kIsi_some, tyD_non, tyD_bl, tyD_int, tyD_str, tyD_tup, eBM_at, kbm1_some, kbm2_some, eSl_at, ks2_some, ks3_some, ks4_some, oNone_at, oSome_at, kSome_int, slO_str, sSeq_at, kSeq_nx, kSeq_rt, kSeq_bk, kSeq_ct, sNext_at, sBreak_at, sCont_at, sRetN_at, sRet_at, kRet_some, sExpr_at, kExpr_some, sSet_at, kSet_some, sIf_at, kIf_true, kIf_false, sPar2_k, kPar2_some, sPar3_k, kPar3_some, sAsg_at, kAsg_some, kAsg2_some, mName_at, mTup_2, mTup_3, mCons_at, kmCons_some, mNil_at, sPut_at, kp1_some, kp2_some, kp3_some, kp4_some, kFn_rt, kFn_nx, mkFn_0, mkFn_1, mkFn_2, mkFn_3, mkFn_4, mkFn_5, sWhile_at, List.getElem?_cons_zero, List.getElem?_cons_succ, List.set_cons_zero, List.set_cons_succ, List.replicate_succ, List.replicate_zero, Nat.reduceSub, Bool.not_true, Bool.not_false, ite_true, ite_false, if_true, if_false, reduceCtorEq, eqO_int, beq_self_eq_true, z0, z1, List.append_nil, cDv_2, cMd_2, gDv_2, gMd_2, cMr_2, cMl_2, cDv_91, cMd_91, gDv_91, gMd_91, cMr_91, cMl_91, cDv_3, cMd_3, gDv_3, gMd_3, cMr_3, cMl_3, cDv_4, cMd_4, gDv_4, gMd_4, cMr_4, cMl_4, cDv_5, cMd_5, gDv_5, gMd_5, cMr_5, cMl_5, cDv_6, cMd_6, gDv_6, gMd_6, cMr_6, cMl_6, cDv_7, cMd_7, gDv_7, gMd_7, cMr_7, cMl_7, cDv_8, cMd_8, gDv_8, gMd_8, cMr_8, cMl_8, cDv_15, cMd_15, gDv_15, gMd_15, cMr_15, cMl_15, cDv_30, cMd_30, gDv_30, gMd_30, cMr_30, cMl_30, cDv_36, cMd_36, gDv_36, gMd_36, cMr_36, cMl_36, cDv_40, cMd_40, gDv_40, gMd_40, cMr_40, cMl_40, cDv_90, cMd_90, gDv_90, gMd_90, cMr_90, cMl_90, cDv_100, cMd_100, gDv_100, gMd_100, cMr_100, cMl_100, cDv_180, cMd_180, gDv_180, gMd_180, cMr_180, cMl_180, cDv_360, cMd_360, gDv_360, gMd_360, cMr_360, cMl_360, cDv_450, cMd_450, gDv_450, gMd_450, cMr_450, cMl_450, cDv_3150, cMd_3150, gDv_3150, gMd_3150, cMr_3150, cMl_3150, cDv_7000, cMd_7000, gDv_7000, gMd_7000, cMr_7000, cMl_7000, cDv_31, cMd_31, gDv_31, gMd_31, cMr_31, cMl_31, cDv_7919, cMd_7919, gDv_7919, gMd_7919, cMr_7919, cMl_7919, cDv_48271, cMd_48271, gDv_48271, gMd_48271, cMr_48271, cMl_48271, cDv_2147483647, cMd_2147483647, gDv_2147483647, gMd_2147483647, cMr_2147483647, cMl_2147483647]⟩
  have z2 : (k == 2) = false := beq_eq_false_iff_ne.mpr k2
  by_cases k3 : k = 3
  · subst k3
    exact ⟨.non, [], trivial, by simp only [F_l_value, b_l_value, eVar_at, kVar_some, eC_at, eBin_at, k2_some, k3_some, eUn_at, k1_some, kVal_some, kBl_some, kEq_at, kBlN_some, kNe_at, kIn_at, kNotIn_at, kIx_at, ixO_tup, kLt_int, kLe_int, kGt_int, kGe_int, kLt_str, kLe_str, kGt_str, kGe_str, kIs_non, kIs_bl, kIs_int, kIs_str, kIs_tup, kIs_ref, kIsNot_non, kIsNot_bl, kIsNot_int, kIsNot_str, kIsNot_tup, kIsNot_ref, opAdd_int, opAdd_str, opSub_int, opMul_int, opDiv_int, opMod_int, opPow_int, opAnd_int, opOr_int, opNeg_int, eChain_at, kc1_some, kc2_some, kc3_true, kc3_false, kc4_some, tOf_at, kTru_some, kTru2_some, truD_non, truD_bl, truD_int, truD_tup, tAnd_at, kAnd_true, kAnd_false, tOr_at, kOr_true, kOr_false, tNot_at, kNot_some, tYes_at, eAnd_at, keAnd_some, keAnd2_true, keAnd2_false, eOr_at, keOr_some, keOr2_true, keOr2_false, eNot_at, keNot_some, keNot2_some, eIf_at, keIf_true, keIf_false, aNil_at, aCons_at, ka1_some, ka2_some, eTup_at, kTup_0, kTup_1, kTup_2, kTup_3, kTup_4, kTup_5, kTup_6, eLst_at, kLst_0, kLst_1, kLst_2, kLst_3, kLst_4, eDic0_at, eCall_at, kCall_some, o1_at, isiO_at, kIsi_some, tyD_non, tyD_bl, tyD_int, tyD_str, tyD_tup, eBM_at, kbm1_some, kbm2_some, eSl_at, ks2_some, ks3_some, ks4_some, oNone_at, oSome_at, kSome_int, slO_str, sSeq_at, kSeq_nx, kSeq_rt, kSeq_bk, kSeq_ct, sNext_at, sBreak_at, sCont_at, sRetN_at, sRet_at, kRet_some, sExpr_at, kExpr_some, sSet_at, kSet_some, sIf_at, kIf_true, kIf_false, sPar2_k, kPar2_some, sPar3_k, kPar3_some, sAsg_at, kAsg_some, kAsg2_some, mName_at, mTup_2, mTup_3, mCons_at, kmCons_some, mNil_at, sPut_at, kp1_some, kp2_some, kp3_some, kp4_some, kFn_rt, kFn_nx, mkFn_0, mkFn_1, mkFn_2, mkFn_3, mkFn_4, mkFn_5, sWhile_at, List.getElem?_cons_zero, List.getElem?_cons_succ, List.set_cons_zero, List.set_cons_succ, List.replicate_succ, List.replicate_zero, Nat.reduceSub, Bool.not_true, Bool.not_false, ite_true, ite_false, if_true, if_false, reduceCtorEq, eqO_int, beq_self_eq_true, z0, z1, z2, List.append_nil, cDv_2, cMd_2, gDv_2, gMd_2, cMr_2, cMl_2, cDv_91, cMd_91, gDv_91, gMd_91, cMr_91, cMl_91, cDv_3, cMd_3, gDv_3, gMd_3, cMr_3, cMl_3, cDv_4, cMd_4, gDv_4, gMd_4, cMr_4, cMl_4, cDv_5, cMd_5, gDv_5, gMd_5, cMr_5, cMl_5, cDv_6, cMd_6, gDv_6, gMd_6, cMr_6, cMl_6, cDv_7, cMd_7, gDv_7, gMd_7, cMr_7, cMl_7, cDv_8, cMd_8, gDv_8, gMd_8, cMr_8, cMl_8, cDv_15, cMd_15, gDv_15, gMd_15, cMr_15, cMl_15, cDv_30, cMd_30, gDv_30, gMd_30, cMr_30, cMl_30, cDv_36, cMd_36, gDv_36, gMd_36, cMr_36, cMl_36, cDv_40, cMd_40, gDv_40, gMd_40, cMr_40, cMl_40, cDv_90, cMd_90, gDv_90, gMd_90, cMr_90, cMl_90, cDv_100, cMd_100, gDv_100, gMd_100, cMr_100, cMl_100, cDv_180, cMd_180, gDv_180, gMd_180, cMr_180, cMl_180, cDv_360, cMd_360, gDv_360, gMd_360, cMr_360, cMl_360, cDv_450, cMd_450, gDv_450, gMd_450, cMr_450, cMl_450, cDv_3150, cMd_3150, gDv_3150, gMd_3150, cMr_3150, cMl_3150, cDv_7000, cMd_7000, gDv_7000, gMd_7000, cMr_7000, cMl_7000, cDv_31, cMd_31, gDv_31, gMd_31, cMr_31, cMl_31, cDv_7919, cMd_7919, gDv_7919, gMd_7919, cMr_7919, cMl_7919, cDv_48271, cMd_48271, gDv_48271, gMd_48271, cMr_48271, cMl_48271, cDv_2147483647, cMd_2147483647, gDv_2147483647, gMd_2147483647, cMr_2147483647, cMl_2147483647]⟩
  have z3 : (k == 3) = false := beq_eq_false_iff_ne.mpr k3
  exact ⟨.thing (n % 3), [], trivial, by simp only [F_l_value, b_l_value, eVar_at, kVar_some, eC_at, eBin_at, k2_some, k3_some, eUn_at, k1_some, kVal_some, kBl_some, kEq_at, kBlN_some, kNe_at, kIn_at, kNotIn_at, kIx_at, ixO_tup, kLt_int, kLe_int, kGt_int, kGe_int, kLt_str, kLe_str, kGt_str, kGe_str, kIs_non, kIs_bl, kIs_int, kIs_str, kIs_tup, kIs_ref, kIsNot_non, kIsNot_bl, kIsNot_int, kIsNot_str, kIsNot_tup, kIsNot_ref, opAdd_int, opAdd_str, opSub_int, opMul_int, opDiv_int, opMod_int, opPow_int, opAnd_int, opOr_int, opNeg_int, eChain_at, kc1_some, kc2_some, kc3_true, kc3_false, kc4_some, tOf_at, kTru_some, kTru2_some, truD_non, truD_bl, truD_int, truD_tup, tAnd_at, kAnd_true, kAnd_false, tOr_at, kOr_true, kOr_false, tNot_at, kNot_some, tYes_at, eAnd_at, keAnd_some, keAnd2_true, keAnd2_false, eOr_at, keOr_some, keOr2_true, keOr2_false, eNot_at, keNot_some, keNot2_some, eIf_at, keIf_true, keIf_false, aNil_at, aCons_at, ka1_some, ka2_some, eTup_at, kTup_0, kTup_1, kTup_2, kTup_3, kTup_4, kTup_5, kTup_6, eLst_at, kLst_0, kLst_1, kLst_2, kLst_3, kLst_4, eDic0_at, eCall_at, kCall_some, o1_at, isiO_at, kIsi_some, tyD_non, tyD_bl, tyD_int, tyD_str, tyD_tup, eBM_at, kbm1_some, kbm2_some, eSl_at, ks2_some, ks3_some, ks4_some, oNone_at, oSome_at, kSome_int, slO_str, sSeq_at, kSeq_nx, kSeq_rt, kSeq_bk, kSeq_ct, sNext_at, sBreak_at, sCont_at, sRetN_at, sRet_at, kRet_some, sExpr_at, kExpr_some, sSet_at, kSet_some, sIf_at, kIf_true, kIf_false, sPar2_k, kPar2_some, sPar3_k, kPar3_some, sAsg_at, kAsg_some, kAsg2_some, mName_at, mTup_2, mTup_3, mCons_at, kmCons_some, mNil_at, sPut_at, kp1_some, kp2_some, kp3_some, kp4_some, kFn_rt, kFn_nx, mkFn_0, mkFn_1, mkFn_2, mkFn_3, mkFn_4, mkFn_5, sWhile_at, List.getElem?_cons_zero, List.getElem?_cons_succ, List.set_cons_zero, List.set_cons_succ, List.replicate_succ, List.replicate_zero, Nat.reduceSub, Bool.not_true, Bool.not_false, ite_true, ite_false, if_true, if_false, reduceCtorEq, eqO_int, beq_self_eq_true, z0, z1, z2, z3, List.append_nil, cDv_2, cMd_2, gDv_2, gMd_2, cMr_2, cMl_2, cDv_91, cMd_91, gDv_91, gMd_91, cMr_91, cMl_91, cDv_3, cMd_3, gDv_3, gMd_3, cMr_3, cMl_3, cDv_4, cMd_4, gDv_4, gMd_4, cMr_4, cMl_4, cDv_5, cMd_5, gDv_5, gMd_5, cMr_5, cMl_5, cDv_6, cMd_6, gDv_6, gMd_6, cMr_6, cMl_6, cDv_7, cMd_7, gDv_7, gMd_7, cMr_7, cMl_7, cDv_8, cMd_8, gDv_8, gMd_8, cMr_8, cMl_8, cDv_15, cMd_15, gDv_15, gMd_15, cMr_15, cMl_15, cDv_30, cMd_30, gDv_30, gMd_30, cMr_30, cMl_30, cDv_36, cMd_36, gDv_36, gMd_36, cMr_36, cMl_36, cDv_40, cMd_40, gDv_40, gMd_40, cMr_40, cMl_40, cDv_90, cMd_90, gDv_90, gMd_90, cMr_90, cMl_90, cDv_100, cMd_100, gDv_100, gMd_100, cMr_100, cMl_100, cDv_180, cMd_180, gDv_180, gMd_180, cMr_180, cMl_180, cDv_360, cMd_360, gDv_360, gMd_360, cMr_360, cMl_360, cDv_450, cMd_450, gDv_450, gMd_450, cMr_450, cMl_450, cDv_3150, cMd_3150, gDv_3150, gMd_3150, cMr_3150, cMl_3150, cDv_7000, cMd_7000, gDv_7000, gMd_7000, cMr_7000, cMl_7000, cDv_31, cMd_31, gDv_31, gMd_31, cMr_31, cMl_31, cDv_7919, cMd_7919, gDv_7919, gMd_7919, cMr_7919, cMl_7919, cDv_48271, cMd_48271, gDv_48271, gMd_48271, cMr_48271, cMl_48271, cDv_2147483647, cMd_2147483647, gDv_2147483647, gMd_2147483647, cMr_2147483647, cMl_2147483647]⟩
end Math

set_option maxRecDepth 100000
set_option maxHeartbeats 4000000
namespace Math
open MP Text PySem
noncomputable def MID : MS := (sSeq (sIf (tOf (eBin kEq (eBin opMod (eBin opDiv (eVar 4) (eC (.int 450))) (eC (.int 7))) (eC (.int 1)))) (sSet 7 (eVar 6)) sNext)
    (sSeq (sIf (tAnd (tOf (eBin kEq (eBin opMod (eBin opDiv (eVar 4) (eC (.int 450))) (eC (.int 7))) (eC (.int 2)))) (tOf (eBin kEq (eBin kIx (eVar 6) (eC (.int 0))) (eC (.str [116, 101, 120, 116]))))) (sSet 7 (eTup (aCons (eC (.str [116, 101, 120, 116])) (aCons (eSl (eBin kIx (eVar 6) (eC (.int 1))) oNone (oSome (eBin opMod (eBin opDiv (eVar 4) (eC (.int 3150))) (eBin opAdd (eCall (o1 lenO) (aCons (eBin kIx (eVar 6) (eC (.int 1))) aNil)) (eC (.int 1)))))) aNil)))) sNext)
    (sSeq (sIf (tAnd (tOf (eBin kGt (eBin opMod (eBin opDiv (eVar 4) (eC (.int 450))) (eC (.int 7))) (eC (.int 4)))) (tAnd (tOf (eBin kEq (eBin kIx (eVar 6) (eC (.int 0))) (eC (.str [116, 101, 120, 116])))) (tOf (eBin kNe (eBin kIx (eVar 6) (eC (.int 1))) (eC (.str [])))))) (sSeq (sSet 8 (eBin opMod (eBin opDiv (eVar 4) (eC (.int 3150))) (eCall (o1 lenO) (aCons (eBin kIx (eVar 6) (eC (.int 1))) aNil))))
    (sSet 7 (eTup (aCons (eC (.str [116, 101, 120, 116])) (aCons (eBin opAdd (eBin opAdd (eSl (eBin kIx (eVar 6) (eC (.int 1))) oNone (oSome (eVar 8))) (eBin kIx (eC (.str [126, 33])) (eCall (o1 intO) (aCons (eBin kEq (eBin kIx (eBin kIx (eVar 6) (eC (.int 1))) (eVar 8)) (eC (.str [126]))) aNil)))) (eSl (eBin kIx (eVar 6) (eC (.int 1))) (oSome (eBin opAdd (eVar 8) (eC (.int 1)))) oNone)) aNil))))) sNext)
    (sIf (tOr (tNot (tOf (eCall F_l_right (aCons (eVar 6) (aCons (eVar 7) aNil))))) (tNot (tOf (eCall F_l_right (aCons (eVar 7) (aCons (eVar 6) aNil)))))) (sRet (eC (.bl false))) sNext))))
theorem u_eq : uF_law_1 = sSeq (sSet 4 (eCall F_l_cell (aCons (eVar 1) (aCons (eVar 2) aNil)))) (sSeq (sSet 5 (eIf (tOf (eBin kGt (eBin opMod (eBin opDiv (eVar 4) (eC (.int 5))) (eC (.int 3))) (eC (.int 0)))) (eBin opMod (eVar 4) (eC (.int 5))) (eBin opMod (eBin opDiv (eVar 4) (eC (.int 15))) (eC (.int 2))))) (sSeq (sSet 6 (eCall F_l_value (aCons (eCall F_l_cell (aCons (eVar 1) (aCons (eVar 2) aNil))) (aCons (eVar 5) aNil)))) (sSeq (sSet 7 (eCall F_l_value (aCons (eCall F_l_cell (aCons (eVar 1) (aCons (eVar 2) aNil))) (aCons (eIf (tOf (eBin kGt (eBin opMod (eBin opDiv (eVar 4) (eC (.int 30))) (eC (.int 3))) (eC (.int 0)))) (eVar 5) (eBin opMod (eBin opDiv (eVar 4) (eC (.int 90))) (eC (.int 5)))) aNil)))) MID))) := rfl
theorem lenO_str {st : Sto} {l : List Nat} (h : l.length ≤ LIM) : lenO (.str l) st = some (.int l.length) := by
  simp only [lenO, h, if_true]
theorem turn_mid (n : Int) (a b : W) (hn : 0 ≤ n) (ha : a.small) (hb : b.small) (x0 x1 x2 x3 x5 x8 x9 : Option D) (st : Sto) :
    ∃ (b' : W) (e8 : Option D) (g : Sto), MID [x0, x1, x2, x3, some (.int n), x5, some a.d, some b.d, x8, x9] st = some (.nx, [x0, x1, x2, x3, some (.int n), x5, some a.d, some b'.d, e8, x9], st ++ g) := by
  have calm : ∀ b' : W, b'.ok → ∃ g1 g2, F_l_right [a.d, b'.d] st = some (.bl true, st ++ g1) ∧ F_l_right [b'.d, a.d] (st ++ g1) = some (.bl true, st ++ (g1 ++ g2)) := fun b' hb' => by
    obtain ⟨g1, e1⟩ := right_is a b' ha.ok hb' st
    obtain ⟨g2, e2⟩ := right_is b' a hb' ha.ok (st ++ g1)
    exact ⟨g1, g2, e1, by rw [e2, List.append_assoc]⟩
  by_cases c1 : n / 450 % 7 = 1
  · have q1 : (n / 450 % 7 == 1) = true := by simp [c1]
    have q2 : (n / 450 % 7 == 2) = false := by simp [c1]
    have q3 : decide (4 < n / 450 % 7) = false := by simp [c1]
    obtain ⟨g1, g2, e1, e2⟩ := calm a ha.ok
    exact ⟨a, x8, g1 ++ g2, by simp only [MID, eVar_at, kVar_some, eC_at, eBin_at, k2_some, k3_some, eUn_at, k1_some, kVal_some, kBl_some, kEq_at, kBlN_some, kNe_at, kIn_at, kNotIn_at, kIx_at, ixO_tup, kLt_int, kLe_int, kGt_int, kGe_int, kLt_str, kLe_str, kGt_str, kGe_str, kIs_non, kIs_bl, kIs_int, kIs_str, kIs_tup, kIs_ref, kIsNot_non, kIsNot_bl, kIsNot_int, kIsNot_str, kIsNot_tup, kIsNot_ref, opAdd_int, opAdd_str, opSub_int, opMul_int, opDiv_int, opMod_int, opPow_int, opAnd_int, opOr_int, opNeg_int, eChain_at, kc1_some, kc2_some, kc3_true, kc3_false, kc4_some, tOf_at, kTru_some, kTru2_some, truD_non, truD_bl, truD_int, truD_tup, tAnd_at, kAnd_true, kAnd_false, tOr_at, kOr_true, kOr_false, tNot_at, kNot_some, tYes_at, eAnd_at, keAnd_some, keAnd2_true, keAnd2_false, eOr_at, keOr_some, keOr2_true, keOr2_false, eNot_at, keNot_some, keNot2_some, eIf_at, keIf_true, keIf_false, aNil_at, aCons_at, ka1_some, ka2_some, eTup_at, kTup_0, kTup_1, kTup_2, kTup_3, kTup_4, kTup_5, kTup_6, eLst_at, kLst_0, kLst_1, kLst_2, kLst_3, kLst_4, eDic0_at, eCall_at, kCall_some, o1_at, isiO_at, kIsi_some, tyD_non, tyD_bl, tyD_int, tyD_str, tyD_tup, eBM_at, kbm1_some, kbm2_some, eSl_at, ks2_some, ks3_some, ks4_some, oNone_at, oSome_at, kSome_int, slO_str, sSeq_at, kSeq_nx, kSeq_rt, kSeq_bk, kSeq_ct, sNext_at, sBreak_at, sCont_at, sRetN_at, sRet_at, kRet_some, sExpr_at, kExpr_some, sSet_at, kSet_some, sIf_at, kIf_true, kIf_false, sPar2_k, kPar2_some, sPar3_k, kPar3_some, sAsg_at, kAsg_some, kAsg2_some, mName_at, mTup_2, mTup_3, mCons_at, kmCons_some, mNil_at, sPut_at, kp1_some, kp2_some, kp3_some, kp4_some, kFn_rt, kFn_nx, mkFn_0, mkFn_1, mkFn_2, mkFn_3, mkFn_4, mkFn_5, sWhile_at, List.getElem?_cons_zero, List.getElem?_cons_succ, List.set_cons_zero, List.set_cons_succ, List.replicate_succ, List.replicate_zero, Nat.reduceSub, Bool.not_true, Bool.not_false, ite_true, ite_false, if_true, if_false, reduceCtorEq, cDv_450, cMd_450, gDv_450, gMd_450, cDv_7, cMd_7, gDv_7, gMd_7, cDv_3150, cMd_3150, gDv_3150, gMd_3150, eqO_int, eq_str, atI0, atI1, q1, q2, q3, e1, e2]⟩
  have q1 : (n / 450 % 7 == 1) = false := beq_eq_false_iff_ne.mpr c1
  have keep : ∃ g1 g2, F_l_right [a.d, b.d] st = some (.bl true, st ++ g1) ∧ F_l_right [b.d, a.d] (st ++ g1) = some (.bl true, st ++ (g1 ++ g2)) := calm b hb.ok
  generalize hy : b.d = y at keep ⊢
  obtain ⟨g1, g2, e1, e2⟩ := keep
  by_cases c2 : n / 450 % 7 = 2
  · have q2 : (n / 450 % 7 == 2) = true := by simp [c2]
    have q3 : decide (4 < n / 450 % 7) = false := by simp [c2]
    cases a with
    | txt l =>
      have hl : l.length ≤ 450 := ha
      have hL : l.length ≤ LIM := lim_le (by omega)
      have m : cMod (n / 3150) ((l.length : Int) + 1) = true := decide_eq_true (by omega)
      have hc := cutG_len l none (some (gMod (n / 3150) ((l.length : Int) + 1)))
      obtain ⟨g1, g2, e1, e2⟩ := calm (.txt (cutG l none (some (gMod (n / 3150) ((l.length : Int) + 1))))) (by show _ ≤ 1000; omega)
      simp only [W.d] at e1 e2 ⊢
      exact ⟨.txt (cutG l none (some (gMod (n / 3150) ((l.length : Int) + 1)))), x8, g1 ++ g2, by simp only [MID, eVar_at, kVar_some, eC_at, eBin_at, k2_some, k3_some, eUn_at, k1_some, kVal_some, kBl_some, kEq_at, kBlN_some, kNe_at, kIn_at, kNotIn_at, kIx_at, ixO_tup, kLt_int, kLe_int, kGt_int, kGe_int, kLt_str, kLe_str, kGt_str, kGe_str, kIs_non, kIs_bl, kIs_int, kIs_str, kIs_tup, kIs_ref, kIsNot_non, kIsNot_bl, kIsNot_int, kIsNot_str, kIsNot_tup, kIsNot_ref, opAdd_int, opAdd_str, opSub_int, opMul_int, opDiv_int, opMod_int, opPow_int, opAnd_int, opOr_int, opNeg_int, eChain_at, kc1_some, kc2_some, kc3_true, kc3_false, kc4_some, tOf_at, kTru_some, kTru2_some, truD_non, truD_bl, truD_int, truD_tup, tAnd_at, kAnd_true, kAnd_false, tOr_at, kOr_true, kOr_false, tNot_at, kNot_some, tYes_at, eAnd_at, keAnd_some, keAnd2_true, keAnd2_false, eOr_at, keOr_some, keOr2_true, keOr2_false, eNot_at, keNot_some, keNot2_some, eIf_at, keIf_true, keIf_false, aNil_at, aCons_at, ka1_some, ka2_some, eTup_at, kTup_0, kTup_1, kTup_2, kTup_3, kTup_4, kTup_5, kTup_6, eLst_at, kLst_0, kLst_1, kLst_2, kLst_3, kLst_4, eDic0_at, eCall_at, kCall_some, o1_at, isiO_at, kIsi_some, tyD_non, tyD_bl, tyD_int, tyD_str, tyD_tup, eBM_at, kbm1_some, kbm2_some, eSl_at, ks2_some, ks3_some, ks4_some, oNone_at, oSome_at, kSome_int, slO_str, sSeq_at, kSeq_nx, kSeq_rt, kSeq_bk, kSeq_ct, sNext_at, sBreak_at, sCont_at, sRetN_at, sRet_at, kRet_some, sExpr_at, kExpr_some, sSet_at, kSet_some, sIf_at, kIf_true, kIf_false, sPar2_k, kPar2_some, sPar3_k, kPar3_some, sAsg_at, kAsg_some, kAsg2_some, mName_at, mTup_2, mTup_3, mCons_at, kmCons_some, mNil_at, sPut_at, kp1_some, kp2_some, kp3_some, kp4_some, kFn_rt, kFn_nx, mkFn_0, mkFn_1, mkFn_2, mkFn_3, mkFn_4, mkFn_5, sWhile_at, List.getElem?_cons_zero, List.getElem?_cons_succ, List.set_cons_zero, List.set_cons_succ, List.replicate_succ, List.replicate_zero, Nat.reduceSub, Bool.not_true, Bool.not_false, ite_true, ite_false, if_true, if_false, reduceCtorEq, cDv_450, cMd_450, gDv_450, gMd_450, cDv_7, cMd_7, gDv_7, gMd_7, cDv_3150, cMd_3150, gDv_3150, gMd_3150, eqO_int, eq_str, atI0, atI1, q1, q2, q3, lenO_str hL, hL, m, e1, e2, List.cons.injEq, Nat.reduceEqDiff, decide_false, decide_true, and_false, and_true, false_and, true_and]⟩
    | num i => exact ⟨b, x8, g1 ++ g2, by subst hy; simp only [W.d] at e1 e2 ⊢; simp only [MID, eVar_at, kVar_some, eC_at, eBin_at, k2_some, k3_some, eUn_at, k1_some, kVal_some, kBl_some, kEq_at, kBlN_some, kNe_at, kIn_at, kNotIn_at, kIx_at, ixO_tup, kLt_int, kLe_int, kGt_int, kGe_int, kLt_str, kLe_str, kGt_str, kGe_str, kIs_non, kIs_bl, kIs_int, kIs_str, kIs_tup, kIs_ref, kIsNot_non, kIsNot_bl, kIsNot_int, kIsNot_str, kIsNot_tup, kIsNot_ref, opAdd_int, opAdd_str, opSub_int, opMul_int, opDiv_int, opMod_int, opPow_int, opAnd_int, opOr_int, opNeg_int, eChain_at, kc1_some, kc2_some, kc3_true, kc3_false, kc4_some, tOf_at, kTru_some, kTru2_some, truD_non, truD_bl, truD_int, truD_tup, tAnd_at, kAnd_true, kAnd_false, tOr_at, kOr_true, kOr_false, tNot_at, kNot_some, tYes_at, eAnd_at, keAnd_some, keAnd2_true, keAnd2_false, eOr_at, keOr_some, keOr2_true, keOr2_false, eNot_at, keNot_some, keNot2_some, eIf_at, keIf_true, keIf_false, aNil_at, aCons_at, ka1_some, ka2_some, eTup_at, kTup_0, kTup_1, kTup_2, kTup_3, kTup_4, kTup_5, kTup_6, eLst_at, kLst_0, kLst_1, kLst_2, kLst_3, kLst_4, eDic0_at, eCall_at, kCall_some, o1_at, isiO_at, kIsi_some, tyD_non, tyD_bl, tyD_int, tyD_str, tyD_tup, eBM_at, kbm1_some, kbm2_some, eSl_at, ks2_some, ks3_some, ks4_some, oNone_at, oSome_at, kSome_int, slO_str, sSeq_at, kSeq_nx, kSeq_rt, kSeq_bk, kSeq_ct, sNext_at, sBreak_at, sCont_at, sRetN_at, sRet_at, kRet_some, sExpr_at, kExpr_some, sSet_at, kSet_some, sIf_at, kIf_true, kIf_false, sPar2_k, kPar2_some, sPar3_k, kPar3_some, sAsg_at, kAsg_some, kAsg2_some, mName_at, mTup_2, mTup_3, mCons_at, kmCons_some, mNil_at, sPut_at, kp1_some, kp2_some, kp3_some, kp4_some, kFn_rt, kFn_nx, mkFn_0, mkFn_1, mkFn_2, mkFn_3, mkFn_4, mkFn_5, sWhile_at, List.getElem?_cons_zero, List.getElem?_cons_succ, List.set_cons_zero, List.set_cons_succ, List.replicate_succ, List.replicate_zero, Nat.reduceSub, Bool.not_true, Bool.not_false, ite_true, ite_false, if_true, if_false, reduceCtorEq, cDv_450, cMd_450, gDv_450, gMd_450, cDv_7, cMd_7, gDv_7, gMd_7, cDv_3150, cMd_3150, gDv_3150, gMd_3150, eqO_int, eq_str, atI0, atI1, q1, q2, q3, e1, e2, List.cons.injEq, Nat.reduceEqDiff, decide_false, decide_true, and_false, and_true, false_and, true_and]⟩
    | tru i => exact ⟨b, x8, g1 ++ g2, by subst hy; simp only [W.d] at e1 e2 ⊢; simp only [MID, eVar_at, kVar_some, eC_at, eBin_at, k2_some, k3_some, eUn_at, k1_some, kVal_some, kBl_some, kEq_at, kBlN_some, kNe_at, kIn_at, kNotIn_at, kIx_at, ixO_tup, kLt_int, kLe_int, kGt_int, kGe_int, kLt_str, kLe_str, kGt_str, kGe_str, kIs_non, kIs_bl, kIs_int, kIs_str, kIs_tup, kIs_ref, kIsNot_non, kIsNot_bl, kIsNot_int, kIsNot_str, kIsNot_tup, kIsNot_ref, opAdd_int, opAdd_str, opSub_int, opMul_int, opDiv_int, opMod_int, opPow_int, opAnd_int, opOr_int, opNeg_int, eChain_at, kc1_some, kc2_some, kc3_true, kc3_false, kc4_some, tOf_at, kTru_some, kTru2_some, truD_non, truD_bl, truD_int, truD_tup, tAnd_at, kAnd_true, kAnd_false, tOr_at, kOr_true, kOr_false, tNot_at, kNot_some, tYes_at, eAnd_at, keAnd_some, keAnd2_true, keAnd2_false, eOr_at, keOr_some, keOr2_true, keOr2_false, eNot_at, keNot_some, keNot2_some, eIf_at, keIf_true, keIf_false, aNil_at, aCons_at, ka1_some, ka2_some, eTup_at, kTup_0, kTup_1, kTup_2, kTup_3, kTup_4, kTup_5, kTup_6, eLst_at, kLst_0, kLst_1, kLst_2, kLst_3, kLst_4, eDic0_at, eCall_at, kCall_some, o1_at, isiO_at, kIsi_some, tyD_non, tyD_bl, tyD_int, tyD_str, tyD_tup, eBM_at, kbm1_some, kbm2_some, eSl_at, ks2_some, ks3_some, ks4_some, oNone_at, oSome_at, kSome_int, slO_str, sSeq_at, kSeq_nx, kSeq_rt, kSeq_bk, kSeq_ct, sNext_at, sBreak_at, sCont_at, sRetN_at, sRet_at, kRet_some, sExpr_at, kExpr_some, sSet_at, kSet_some, sIf_at, kIf_true, kIf_false, sPar2_k, kPar2_some, sPar3_k, kPar3_some, sAsg_at, kAsg_some, kAsg2_some, mName_at, mTup_2, mTup_3, mCons_at, kmCons_some, mNil_at, sPut_at, kp1_some, kp2_some, kp3_some, kp4_some, kFn_rt, kFn_nx, mkFn_0, mkFn_1, mkFn_2, mkFn_3, mkFn_4, mkFn_5, sWhile_at, List.getElem?_cons_zero, List.getElem?_cons_succ, List.set_cons_zero, List.set_cons_succ, List.replicate_succ, List.replicate_zero, Nat.reduceSub, Bool.not_true, Bool.not_false, ite_true, ite_false, if_true, if_false, reduceCtorEq, cDv_450, cMd_450, gDv_450, gMd_450, cDv_7, cMd_7, gDv_7, gMd_7, cDv_3150, cMd_3150, gDv_3150, gMd_3150, eqO_int, eq_str, atI0, atI1, q1, q2, q3, e1, e2, List.cons.injEq, Nat.reduceEqDiff, decide_false, decide_true, and_false, and_true, false_and, true_and]⟩
    | non => exact ⟨b, x8, g1 ++ g2, by subst hy; simp only [W.d] at e1 e2 ⊢; simp only [MID, eVar_at, kVar_some, eC_at, eBin_at, k2_some, k3_some, eUn_at, k1_some, kVal_some, kBl_some, kEq_at, kBlN_some, kNe_at, kIn_at, kNotIn_at, kIx_at, ixO_tup, kLt_int, kLe_int, kGt_int, kGe_int, kLt_str, kLe_str, kGt_str, kGe_str, kIs_non, kIs_bl, kIs_int, kIs_str, kIs_tup, kIs_ref, kIsNot_non, kIsNot_bl, kIsNot_int, kIsNot_str, kIsNot_tup, kIsNot_ref, opAdd_int, opAdd_str, opSub_int, opMul_int, opDiv_int, opMod_int, opPow_int, opAnd_int, opOr_int, opNeg_int, eChain_at, kc1_some, kc2_some, kc3_true, kc3_false, kc4_some, tOf_at, kTru_some, kTru2_some, truD_non, truD_bl, truD_int, truD_tup, tAnd_at, kAnd_true, kAnd_false, tOr_at, kOr_true, kOr_false, tNot_at, kNot_some, tYes_at, eAnd_at, keAnd_some, keAnd2_true, keAnd2_false, eOr_at, keOr_some, keOr2_true, keOr2_false, eNot_at, keNot_some, keNot2_some, eIf_at, keIf_true, keIf_false, aNil_at, aCons_at, ka1_some, ka2_some, eTup_at, kTup_0, kTup_1, kTup_2, kTup_3, kTup_4, kTup_5, kTup_6, eLst_at, kLst_0, kLst_1, kLst_2, kLst_3, kLst_4, eDic0_at, eCall_at, kCall_some, o1_at, isiO_at, kIsi_some, tyD_non, tyD_bl, tyD_int, tyD_str, tyD_tup, eBM_at, kbm1_some, kbm2_some, eSl_at, ks2_some, ks3_some, ks4_some, oNone_at, oSome_at, kSome_int, slO_str, sSeq_at, kSeq_nx, kSeq_rt, kSeq_bk, kSeq_ct, sNext_at, sBreak_at, sCont_at, sRetN_at, sRet_at, kRet_some, sExpr_at, kExpr_some, sSet_at, kSet_some, sIf_at, kIf_true, kIf_false, sPar2_k, kPar2_some, sPar3_k, kPar3_some, sAsg_at, kAsg_some, kAsg2_some, mName_at, mTup_2, mTup_3, mCons_at, kmCons_some, mNil_at, sPut_at, kp1_some, kp2_some, kp3_some, kp4_some, kFn_rt, kFn_nx, mkFn_0, mkFn_1, mkFn_2, mkFn_3, mkFn_4, mkFn_5, sWhile_at, List.getElem?_cons_zero, List.getElem?_cons_succ, List.set_cons_zero, List.set_cons_succ, List.replicate_succ, List.replicate_zero, Nat.reduceSub, Bool.not_true, Bool.not_false, ite_true, ite_false, if_true, if_false, reduceCtorEq, cDv_450, cMd_450, gDv_450, gMd_450, cDv_7, cMd_7, gDv_7, gMd_7, cDv_3150, cMd_3150, gDv_3150, gMd_3150, eqO_int, eq_str, atI0, atI1, q1, q2, q3, e1, e2, List.cons.injEq, Nat.reduceEqDiff, decide_false, decide_true, and_false, and_true, false_and, true_and]⟩
    | thing i => exact ⟨b, x8, g1 ++ g2, by subst hy; simp only [W.d] at e1 e2 ⊢; simp only [MID, eVar_at, kVar_some, eC_at, eBin_at, k2_some, k3_some, eUn_at, k1_some, kVal_some, kBl_some, kEq_at, kBlN_some, kNe_at, kIn_at, kNotIn_at, kIx_at, ixO_tup, kLt_int, kLe_int, kGt_int, kGe_int, kLt_str, kLe_str, kGt_str, kGe_str, kIs_non, kIs_bl, kIs_int, kIs_str, kIs_tup, kIs_ref, kIsNot_non, kIsNot_bl, kIsNot_int, kIsNot_str, kIsNot_tup, kIsNot_ref, opAdd_int, opAdd_str, opSub_int, opMul_int, opDiv_int, opMod_int, opPow_int, opAnd_int, opOr_int, opNeg_int, eChain_at, kc1_some, kc2_some, kc3_true, kc3_false, kc4_some, tOf_at, kTru_some, kTru2_some, truD_non, truD_bl, truD_int, truD_tup, tAnd_at, kAnd_true, kAnd_false, tOr_at, kOr_true, kOr_false, tNot_at, kNot_some, tYes_at, eAnd_at, keAnd_some, keAnd2_true, keAnd2_false, eOr_at, keOr_some, keOr2_true, keOr2_false, eNot_at, keNot_some, keNot2_some, eIf_at, keIf_true, keIf_false, aNil_at, aCons_at, ka1_some, ka2_some, eTup_at, kTup_0, kTup_1, kTup_2, kTup_3, kTup_4, kTup_5, kTup_6, eLst_at, kLst_0, kLst_1, kLst_2, kLst_3, kLst_4, eDic0_at, eCall_at, kCall_some, o1_at, isiO_at, kIsi_some, tyD_non, tyD_bl, tyD_int, tyD_str, tyD_tup, eBM_at, kbm1_some, kbm2_some, eSl_at, ks2_some, ks3_some, ks4_some, oNone_at, oSome_at, kSome_int, slO_str, sSeq_at, kSeq_nx, kSeq_rt, kSeq_bk, kSeq_ct, sNext_at, sBreak_at, sCont_at, sRetN_at, sRet_at, kRet_some, sExpr_at, kExpr_some, sSet_at, kSet_some, sIf_at, kIf_true, kIf_false, sPar2_k, kPar2_some, sPar3_k, kPar3_some, sAsg_at, kAsg_some, kAsg2_some, mName_at, mTup_2, mTup_3, mCons_at, kmCons_some, mNil_at, sPut_at, kp1_some, kp2_some, kp3_some, kp4_some, kFn_rt, kFn_nx, mkFn_0, mkFn_1, mkFn_2, mkFn_3, mkFn_4, mkFn_5, sWhile_at, List.getElem?_cons_zero, List.getElem?_cons_succ, List.set_cons_zero, List.set_cons_succ, List.replicate_succ, List.replicate_zero, Nat.reduceSub, Bool.not_true, Bool.not_false, ite_true, ite_false, if_true, if_false, reduceCtorEq, cDv_450, cMd_450, gDv_450, gMd_450, cDv_7, cMd_7, gDv_7, gMd_7, cDv_3150, cMd_3150, gDv_3150, gMd_3150, eqO_int, eq_str, atI0, atI1, q1, q2, q3, e1, e2, List.cons.injEq, Nat.reduceEqDiff, decide_false, decide_true, and_false, and_true, false_and, true_and]⟩
  have q2 : (n / 450 % 7 == 2) = false := beq_eq_false_iff_ne.mpr c2
  by_cases c3 : 4 < n / 450 % 7
  · have q3 : decide (4 < n / 450 % 7) = true := by simp [c3]
    cases a with
    | txt l =>
      have hl : l.length ≤ 450 := ha
      have hL : l.length ≤ LIM := lim_le (by omega)
      by_cases hz : l = []
      · have q4 : decide (l = []) = true := by simp [hz]
        exact ⟨b, x8, g1 ++ g2, by subst hy; simp only [W.d] at e1 e2 ⊢; simp only [MID, eVar_at, kVar_some, eC_at, eBin_at, k2_some, k3_some, eUn_at, k1_some, kVal_some, kBl_some, kEq_at, kBlN_some, kNe_at, kIn_at, kNotIn_at, kIx_at, ixO_tup, kLt_int, kLe_int, kGt_int, kGe_int, kLt_str, kLe_str, kGt_str, kGe_str, kIs_non, kIs_bl, kIs_int, kIs_str, kIs_tup, kIs_ref, kIsNot_non, kIsNot_bl, kIsNot_int, kIsNot_str, kIsNot_tup, kIsNot_ref, opAdd_int, opAdd_str, opSub_int, opMul_int, opDiv_int, opMod_int, opPow_int, opAnd_int, opOr_int, opNeg_int, eChain_at, kc1_some, kc2_some, kc3_true, kc3_false, kc4_some, tOf_at, kTru_some, kTru2_some, truD_non, truD_bl, truD_int, truD_tup, tAnd_at, kAnd_true, kAnd_false, tOr_at, kOr_true, kOr_false, tNot_at, kNot_some, tYes_at, eAnd_at, keAnd_some, keAnd2_true, keAnd2_false, eOr_at, keOr_some, keOr2_true, keOr2_false, eNot_at, keNot_some, keNot2_some, eIf_at, keIf_true, keIf_false, aNil_at, aCons_at, ka1_some, ka2_some, eTup_at, kTup_0, kTup_1, kTup_2, kTup_3, kTup_4, kTup_5, kTup_6, eLst_at, kLst_0, kLst_1, kLst_2, kLst_3, kLst_4, eDic0_at, eCall_at, kCall_some, o1_at, isiO_at, kIsi_some, tyD_non, tyD_bl, tyD_int, tyD_str, tyD_tup, eBM_at, kbm1_some, kbm2_some, eSl_at, ks2_some, ks3_some, ks4_some, oNone_at, oSome_at, kSome_int, slO_str, sSeq_at, kSeq_nx, kSeq_rt, kSeq_bk, kSeq_ct, sNext_at, sBreak_at, sCont_at, sRetN_at, sRet_at, kRet_some, sExpr_at, kExpr_some, sSet_at, kSet_some, sIf_at, kIf_true, kIf_false, sPar2_k, kPar2_some, sPar3_k, kPar3_some, sAsg_at, kAsg_some, kAsg2_some, mName_at, mTup_2, mTup_3, mCons_at, kmCons_some, mNil_at, sPut_at, kp1_some, kp2_some, kp3_some, kp4_some, kFn_rt, kFn_nx, mkFn_0, mkFn_1, mkFn_2, mkFn_3, mkFn_4, mkFn_5, sWhile_at, List.getElem?_cons_zero, List.getElem?_cons_succ, List.set_cons_zero, List.set_cons_succ, List.replicate_succ, List.replicate_zero, Nat.reduceSub, Bool.not_true, Bool.not_false, ite_true, ite_false, if_true, if_false, reduceCtorEq, cDv_450, cMd_450, gDv_450, gMd_450, cDv_7, cMd_7, gDv_7, gMd_7, cDv_3150, cMd_3150, gDv_3150, gMd_3150, eqO_int, eq_str, atI0, atI1, q1, q2, q3, q4, e1, e2, List.cons.injEq, Nat.reduceEqDiff, decide_false, decide_true, and_false, and_true, false_and, true_and]⟩
      · have q4 : decide (l = []) = false := by simp [hz]
        have hp : 0 < l.length := List.length_pos_iff.mpr hz
        have m : cMod (n / 3150) (l.length : Int) = true := decide_eq_true (by omega)
        have m2 : gMod (n / 3150) (l.length : Int) = n / 3150 % (l.length : Int) := by
          unfold gMod
          rw [if_pos (by omega)]
        obtain ⟨c, _, e⟩ := atI_in (xs := l) (i := n / 3150 % (l.length : Int)) (Int.emod_nonneg _ (by omega)) (Int.emod_lt_of_pos _ (by omega))
        have e3 : ixO (.str l) (.int (n / 3150 % (l.length : Int))) st = some (.str [c]) := by
          rw [ixO_str hL, e]
          rfl
        have e4 : ∃ x : Nat, ixO (.str [126, 33]) (.int (if decide (c = 126) = true then 1 else 0)) st = some (.str [x]) := by
          by_cases hx : c = 126
          · exact ⟨33, by rw [if_pos (by simp [hx])]; rfl⟩
          · exact ⟨126, by rw [if_neg (by simp [hx])]; rfl⟩
        obtain ⟨x, e4⟩ := e4
        have l1 := cutG_len l none (some (n / 3150 % (l.length : Int)))
        have l2 := cutG_len l (some (n / 3150 % (l.length : Int) + 1)) none
        have k2 : (cutG l none (some (n / 3150 % (l.length : Int)))).length + [x].length ≤ LIM := lim_le (by simp only [List.length_singleton]; omega)
        have k3 : (cutG l none (some (n / 3150 % (l.length : Int))) ++ [x]).length + (cutG l (some (n / 3150 % (l.length : Int) + 1)) none).length ≤ LIM := lim_le (by simp only [List.length_append, List.length_singleton]; omega)
        obtain ⟨g1, g2, e1, e2⟩ := calm (.txt (cutG l none (some (n / 3150 % (l.length : Int))) ++ [x] ++ cutG l (some (n / 3150 % (l.length : Int) + 1)) none)) (by
          show _ ≤ 1000
          simp only [List.length_append, List.length_singleton]
          omega)
        simp only [W.d] at e1 e2 ⊢
        exact ⟨.txt (cutG l none (some (n / 3150 % (l.length : Int))) ++ [x] ++ cutG l (some (n / 3150 % (l.length : Int) + 1)) none), some (.int (n / 3150 % (l.length : Int))), g1 ++ g2, by simp only [MID, eVar_at, kVar_some, eC_at, eBin_at, k2_some, k3_some, eUn_at, k1_some, kVal_some, kBl_some, kEq_at, kBlN_some, kNe_at, kIn_at, kNotIn_at, kIx_at, ixO_tup, kLt_int, kLe_int, kGt_int, kGe_int, kLt_str, kLe_str, kGt_str, kGe_str, kIs_non, kIs_bl, kIs_int, kIs_str, kIs_tup, kIs_ref, kIsNot_non, kIsNot_bl, kIsNot_int, kIsNot_str, kIsNot_tup, kIsNot_ref, opAdd_int, opAdd_str, opSub_int, opMul_int, opDiv_int, opMod_int, opPow_int, opAnd_int, opOr_int, opNeg_int, eChain_at, kc1_some, kc2_some, kc3_true, kc3_false, kc4_some, tOf_at, kTru_some, kTru2_some, truD_non, truD_bl, truD_int, truD_tup, tAnd_at, kAnd_true, kAnd_false, tOr_at, kOr_true, kOr_false, tNot_at, kNot_some, tYes_at, eAnd_at, keAnd_some, keAnd2_true, keAnd2_false, eOr_at, keOr_some, keOr2_true, keOr2_false, eNot_at, keNot_some, keNot2_some, eIf_at, keIf_true, keIf_false, aNil_at, aCons_at, ka1_some, ka2_some, eTup_at, kTup_0, kTup_1, kTup_2, kTup_3, kTup_4, kTup_5, kTup_6, eLst_at, kLst_0, kLst_1, kLst_2, kLst_3, kLst_4, eDic0_at, eCall_at, kCall_some, o1_at, isiO_at, kIsi_some, tyD_non, tyD_bl, tyD_int, tyD_str, tyD_tup, eBM_at, kbm1_some, kbm2_some, eSl_at, ks2_some, ks3_some, ks4_some, oNone_at, oSome_at, kSome_int, slO_str, sSeq_at, kSeq_nx, kSeq_rt, kSeq_bk, kSeq_ct, sNext_at, sBreak_at, sCont_at, sRetN_at, sRet_at, kRet_some, sExpr_at, kExpr_some, sSet_at, kSet_some, sIf_at, kIf_true, kIf_false, sPar2_k, kPar2_some, sPar3_k, kPar3_some, sAsg_at, kAsg_some, kAsg2_some, mName_at, mTup_2, mTup_3, mCons_at, kmCons_some, mNil_at, sPut_at, kp1_some, kp2_some, kp3_some, kp4_some, kFn_rt, kFn_nx, mkFn_0, mkFn_1, mkFn_2, mkFn_3, mkFn_4, mkFn_5, sWhile_at, List.getElem?_cons_zero, List.getElem?_cons_succ, List.set_cons_zero, List.set_cons_succ, List.replicate_succ, List.replicate_zero, Nat.reduceSub, Bool.not_true, Bool.not_false, ite_true, ite_false, if_true, if_false, reduceCtorEq, cDv_450, cMd_450, gDv_450, gMd_450, cDv_7, cMd_7, gDv_7, gMd_7, cDv_3150, cMd_3150, gDv_3150, gMd_3150, eqO_int, eq_str, atI0, atI1, q1, q2, q3, q4, lenO_str hL, hL, m, m2, e3, intO, e4, k2, k3, e1, e2, List.cons.injEq, Nat.reduceEqDiff, decide_false, decide_true, and_false, and_true, false_and, true_and]⟩
    | num i => exact ⟨b, x8, g1 ++ g2, by subst hy; simp only [W.d] at e1 e2 ⊢; simp only [MID, eVar_at, kVar_some, eC_at, eBin_at, k2_some, k3_some, eUn_at, k1_some, kVal_some, kBl_some, kEq_at, kBlN_some, kNe_at, kIn_at, kNotIn_at, kIx_at, ixO_tup, kLt_int, kLe_int, kGt_int, kGe_int, kLt_str, kLe_str, kGt_str, kGe_str, kIs_non, kIs_bl, kIs_int, kIs_str, kIs_tup, kIs_ref, kIsNot_non, kIsNot_bl, kIsNot_int, kIsNot_str, kIsNot_tup, kIsNot_ref, opAdd_int, opAdd_str, opSub_int, opMul_int, opDiv_int, opMod_int, opPow_int, opAnd_int, opOr_int, opNeg_int, eChain_at, kc1_some, kc2_some, kc3_true, kc3_false, kc4_some, tOf_at, kTru_some, kTru2_some, truD_non, truD_bl, truD_int, truD_tup, tAnd_at, kAnd_true, kAnd_false, tOr_at, kOr_true, kOr_false, tNot_at, kNot_some, tYes_at, eAnd_at, keAnd_some, keAnd2_true, keAnd2_false, eOr_at, keOr_some, keOr2_true, keOr2_false, eNot_at, keNot_some, keNot2_some, eIf_at, keIf_true, keIf_false, aNil_at, aCons_at, ka1_some, ka2_some, eTup_at, kTup_0, kTup_1, kTup_2, kTup_3, kTup_4, kTup_5, kTup_6, eLst_at, kLst_0, kLst_1, kLst_2, kLst_3, kLst_4, eDic0_at, eCall_at, kCall_some, o1_at, isiO_at, kIsi_some, tyD_non, tyD_bl, tyD_int, tyD_str, tyD_tup, eBM_at, kbm1_some, kbm2_some, eSl_at, ks2_some, ks3_some, ks4_some, oNone_at, oSome_at, kSome_int, slO_str, sSeq_at, kSeq_nx, kSeq_rt, kSeq_bk, kSeq_ct, sNext_at, sBreak_at, sCont_at, sRetN_at, sRet_at, kRet_some, sExpr_at, kExpr_some, sSet_at, kSet_some, sIf_at, kIf_true, kIf_false, sPar2_k, kPar2_some, sPar3_k, kPar3_some, sAsg_at, kAsg_some, kAsg2_some, mName_at, mTup_2, mTup_3, mCons_at, kmCons_some, mNil_at, sPut_at, kp1_some, kp2_some, kp3_some, kp4_some, kFn_rt, kFn_nx, mkFn_0, mkFn_1, mkFn_2, mkFn_3, mkFn_4, mkFn_5, sWhile_at, List.getElem?_cons_zero, List.getElem?_cons_succ, List.set_cons_zero, List.set_cons_succ, List.replicate_succ, List.replicate_zero, Nat.reduceSub, Bool.not_true, Bool.not_false, ite_true, ite_false, if_true, if_false, reduceCtorEq, cDv_450, cMd_450, gDv_450, gMd_450, cDv_7, cMd_7, gDv_7, gMd_7, cDv_3150, cMd_3150, gDv_3150, gMd_3150, eqO_int, eq_str, atI0, atI1, q1, q2, q3, e1, e2, List.cons.injEq, Nat.reduceEqDiff, decide_false, decide_true, and_false, and_true, false_and, true_and]⟩
    | tru i => exact ⟨b, x8, g1 ++ g2, by subst hy; simp only [W.d] at e1 e2 ⊢; simp only [MID, eVar_at, kVar_some, eC_at, eBin_at, k2_some, k3_some, eUn_at, k1_some, kVal_some, kBl_some, kEq_at, kBlN_some, kNe_at, kIn_at, kNotIn_at, kIx_at, ixO_tup, kLt_int, kLe_int, kGt_int, kGe_int, kLt_str, kLe_str, kGt_str, kGe_str, kIs_non, kIs_bl, kIs_int, kIs_str, kIs_tup, kIs_ref, kIsNot_non, kIsNot_bl, kIsNot_int, kIsNot_str, kIsNot_tup, kIsNot_ref, opAdd_int, opAdd_str, opSub_int, opMul_int, opDiv_int, opMod_int, opPow_int, opAnd_int, opOr_int, opNeg_int, eChain_at, kc1_some, kc2_some, kc3_true, kc3_false, kc4_some, tOf_at, kTru_some, kTru2_some, truD_non, truD_bl, truD_int, truD_tup, tAnd_at, kAnd_true, kAnd_false, tOr_at, kOr_true, kOr_false, tNot_at, kNot_some, tYes_at, eAnd_at, keAnd_some, keAnd2_true, keAnd2_false, eOr_at, keOr_some, keOr2_true, keOr2_false, eNot_at, keNot_some, keNot2_some, eIf_at, keIf_true, keIf_false, aNil_at, aCons_at, ka1_some, ka2_some, eTup_at, kTup_0, kTup_1, kTup_2, kTup_3, kTup_4, kTup_5, kTup_6, eLst_at, kLst_0, kLst_1, kLst_2, kLst_3, kLst_4, eDic0_at, eCall_at, kCall_some, o1_at, isiO_at, kIsi_some, tyD_non, tyD_bl, tyD_int, tyD_str, tyD_tup, eBM_at, kbm1_some, kbm2_some, eSl_at, ks2_some, ks3_some, ks4_some, oNone_at, oSome_at, kSome_int, slO_str, sSeq_at, kSeq_nx, kSeq_rt, kSeq_bk, kSeq_ct, sNext_at, sBreak_at, sCont_at, sRetN_at, sRet_at, kRet_some, sExpr_at, kExpr_some, sSet_at, kSet_some, sIf_at, kIf_true, kIf_false, sPar2_k, kPar2_some, sPar3_k, kPar3_some, sAsg_at, kAsg_some, kAsg2_some, mName_at, mTup_2, mTup_3, mCons_at, kmCons_some, mNil_at, sPut_at, kp1_some, kp2_some, kp3_some, kp4_some, kFn_rt, kFn_nx, mkFn_0, mkFn_1, mkFn_2, mkFn_3, mkFn_4, mkFn_5, sWhile_at, List.getElem?_cons_zero, List.getElem?_cons_succ, List.set_cons_zero, List.set_cons_succ, List.replicate_succ, List.replicate_zero, Nat.reduceSub, Bool.not_true, Bool.not_false, ite_true, ite_false, if_true, if_false, reduceCtorEq, cDv_450, cMd_450, gDv_450, gMd_450, cDv_7, cMd_7, gDv_7, gMd_7, cDv_3150, cMd_3150, gDv_3150, gMd_3150, eqO_int, eq_str, atI0, atI1, q1, q2, q3, e1, e2, List.cons.injEq, Nat.reduceEqDiff, decide_false, decide_true, and_false, and_true, false_and, true_and]⟩
    | non => exact ⟨b, x8, g1 ++ g2, by subst hy; simp only [W.d] at e1 e2 ⊢; simp only [MID, eVar_at, kVar_some, eC_at, eBin_at, k2_some, k3_some, eUn_at, k1_some, kVal_some, kBl_some, kEq_at, kBlN_some, kNe_at, kIn_at, kNotIn_at, kIx_at, ixO_tup, kLt_int, kLe_int, kGt_int, kGe_int, kLt_str, kLe_str, kGt_str, kGe_str, kIs_non, kIs_bl, kIs_int, kIs_str, kIs_tup, kIs_ref, kIsNot_non, kIsNot_bl, kIsNot_int, kIsNot_str, kIsNot_tup, kIsNot_ref, opAdd_int, opAdd_str, opSub_int, opMul_int, opDiv_int, opMod_int, opPow_int, opAnd_int, opOr_int, opNeg_int, eChain_at, kc1_some, kc2_some, kc3_true, kc3_false, kc4_some, tOf_at, kTru_some, kTru2_some, truD_non, truD_bl, truD_int, truD_tup, tAnd_at, kAnd_true, kAnd_false, tOr_at, kOr_true, kOr_false, tNot_at, kNot_some, tYes_at, eAnd_at, keAnd_some, keAnd2_true, keAnd2_false, eOr_at, keOr_some, keOr2_true, keOr2_false, eNot_at, keNot_some, keNot2_some, eIf_at, keIf_true, keIf_false, aNil_at, aCons_at, ka1_some, ka2_some, eTup_at, kTup_0, kTup_1, kTup_2, kTup_3, kTup_4, kTup_5, kTup_6, eLst_at, kLst_0, kLst_1, kLst_2, kLst_3, kLst_4, eDic0_at, eCall_at, kCall_some, o1_at, isiO_at, kIsi_some, tyD_non, tyD_bl, tyD_int, tyD_str, tyD_tup, eBM_at, kbm1_some, kbm2_some, eSl_at, ks2_some, ks3_some, ks4_some, oNone_at, oSome_at, kSome_int, slO_str, sSeq_at, kSeq_nx, kSeq_rt, kSeq_bk, kSeq_ct, sNext_at, sBreak_at, sCont_at, sRetN_at, sRet_at, kRet_some, sExpr_at, kExpr_some, sSet_at, kSet_some, sIf_at, kIf_true, kIf_false, sPar2_k, kPar2_some, sPar3_k, kPar3_some, sAsg_at, kAsg_some, kAsg2_some, mName_at, mTup_2, mTup_3, mCons_at, kmCons_some, mNil_at, sPut_at, kp1_some, kp2_some, kp3_some, kp4_some, kFn_rt, kFn_nx, mkFn_0, mkFn_1, mkFn_2, mkFn_3, mkFn_4, mkFn_5, sWhile_at, List.getElem?_cons_zero, List.getElem?_cons_succ, List.set_cons_zero, List.set_cons_succ, List.replicate_succ, List.replicate_zero, Nat.reduceSub, Bool.not_true, Bool.not_false, ite_true, ite_false, if_true, if_false, reduceCtorEq, cDv_450, cMd_450, gDv_450, gMd_450, cDv_7, cMd_7, gDv_7, gMd_7, cDv_3150, cMd_3150, gDv_3150, gMd_3150, eqO_int, eq_str, atI0, atI1, q1, q2, q3, e1, e2, List.cons.injEq, Nat.reduceEqDiff, decide_false, decide_true, and_false, and_true, false_and, true_and]⟩
    | thing i => exact ⟨b, x8, g1 ++ g2, by subst hy; simp only [W.d] at e1 e2 ⊢; simp only [MID, eVar_at, kVar_some, eC_at, eBin_at, k2_some, k3_some, eUn_at, k1_some, kVal_some, kBl_some, kEq_at, kBlN_some, kNe_at, kIn_at, kNotIn_at, kIx_at, ixO_tup, kLt_int, kLe_int, kGt_int, kGe_int, kLt_str, kLe_str, kGt_str, kGe_str, kIs_non, kIs_bl, kIs_int, kIs_str, kIs_tup, kIs_ref, kIsNot_non, kIsNot_bl, kIsNot_int, kIsNot_str, kIsNot_tup, kIsNot_ref, opAdd_int, opAdd_str, opSub_int, opMul_int, opDiv_int, opMod_int, opPow_int, opAnd_int, opOr_int, opNeg_int, eChain_at, kc1_some, kc2_some, kc3_true, kc3_false, kc4_some, tOf_at, kTru_some, kTru2_some, truD_non, truD_bl, truD_int, truD_tup, tAnd_at, kAnd_true, kAnd_false, tOr_at, kOr_true, kOr_false, tNot_at, kNot_some, tYes_at, eAnd_at, keAnd_some, keAnd2_true, keAnd2_false, eOr_at, keOr_some, keOr2_true, keOr2_false, eNot_at, keNot_some, keNot2_some, eIf_at, keIf_true, keIf_false, aNil_at, aCons_at, ka1_some, ka2_some, eTup_at, kTup_0, kTup_1, kTup_2, kTup_3, kTup_4, kTup_5, kTup_6, eLst_at, kLst_0, kLst_1, kLst_2, kLst_3, kLst_4, eDic0_at, eCall_at, kCall_some, o1_at, isiO_at, kIsi_some, tyD_non, tyD_bl, tyD_int, tyD_str, tyD_tup, eBM_at, kbm1_some, kbm2_some, eSl_at, ks2_some, ks3_some, ks4_some, oNone_at, oSome_at, kSome_int, slO_str, sSeq_at, kSeq_nx, kSeq_rt, kSeq_bk, kSeq_ct, sNext_at, sBreak_at, sCont_at, sRetN_at, sRet_at, kRet_some, sExpr_at, kExpr_some, sSet_at, kSet_some, sIf_at, kIf_true, kIf_false, sPar2_k, kPar2_some, sPar3_k, kPar3_some, sAsg_at, kAsg_some, kAsg2_some, mName_at, mTup_2, mTup_3, mCons_at, kmCons_some, mNil_at, sPut_at, kp1_some, kp2_some, kp3_some, kp4_some, kFn_rt, kFn_nx, mkFn_0, mkFn_1, mkFn_2, mkFn_3, mkFn_4, mkFn_5, sWhile_at, List.getElem?_cons_zero, List.getElem?_cons_succ, List.set_cons_zero, List.set_cons_succ, List.replicate_succ, List.replicate_zero, Nat.reduceSub, Bool.not_true, Bool.not_false, ite_true, ite_false, if_true, if_false, reduceCtorEq, cDv_450, cMd_450, gDv_450, gMd_450, cDv_7, cMd_7, gDv_7, gMd_7, cDv_3150, cMd_3150, gDv_3150, gMd_3150, eqO_int, eq_str, atI0, atI1, q1, q2, q3, e1, e2, List.cons.injEq, Nat.reduceEqDiff, decide_false, decide_true, and_false, and_true, false_and, true_and]⟩
  · have q3 : decide (4 < n / 450 % 7) = false := by simp [c3]
    exact ⟨b, x8, g1 ++ g2, by subst hy; simp only [MID, eVar_at, kVar_some, eC_at, eBin_at, k2_some, k3_some, eUn_at, k1_some, kVal_some, kBl_some, kEq_at, kBlN_some, kNe_at, kIn_at, kNotIn_at, kIx_at, ixO_tup, kLt_int, kLe_int, kGt_int, kGe_int, kLt_str, kLe_str, kGt_str, kGe_str, kIs_non, kIs_bl, kIs_int, kIs_str, kIs_tup, kIs_ref, kIsNot_non, kIsNot_bl, kIsNot_int, kIsNot_str, kIsNot_tup, kIsNot_ref, opAdd_int, opAdd_str, opSub_int, opMul_int, opDiv_int, opMod_int, opPow_int, opAnd_int, opOr_int, opNeg_int, eChain_at, kc1_some, kc2_some, kc3_true, kc3_false, kc4_some, tOf_at, kTru_some, kTru2_some, truD_non, truD_bl, truD_int, truD_tup, tAnd_at, kAnd_true, kAnd_false, tOr_at, kOr_true, kOr_false, tNot_at, kNot_some, tYes_at, eAnd_at, keAnd_some, keAnd2_true, keAnd2_false, eOr_at, keOr_some, keOr2_true, keOr2_false, eNot_at, keNot_some, keNot2_some, eIf_at, keIf_true, keIf_false, aNil_at, aCons_at, ka1_some, ka2_some, eTup_at, kTup_0, kTup_1, kTup_2, kTup_3, kTup_4, kTup_5, kTup_6, eLst_at, kLst_0, kLst_1, kLst_2, kLst_3, kLst_4, eDic0_at, eCall_at, kCall_some, o1_at, isiO_at, kIsi_some, tyD_non, tyD_bl, tyD_int, tyD_str, tyD_tup, eBM_at, kbm1_some, kbm2_some, eSl_at, ks2_some, ks3_some, ks4_some, oNone_at, oSome_at, kSome_int, slO_str, sSeq_at, kSeq_nx, kSeq_rt, kSeq_bk, kSeq_ct, sNext_at, sBreak_at, sCont_at, sRetN_at, sRet_at, kRet_some, sExpr_at, kExpr_some, sSet_at, kSet_some, sIf_at, kIf_true, kIf_false, sPar2_k, kPar2_some, sPar3_k, kPar3_some, sAsg_at, kAsg_some, kAsg2_some, mName_at, mTup_2, mTup_3, mCons_at, kmCons_some, mNil_at, sPut_at, kp1_some, kp2_some, kp3_some, kp4_some, kFn_rt, kFn_nx, mkFn_0, mkFn_1, mkFn_2, mkFn_3, mkFn_4, mkFn_5, sWhile_at, List.getElem?_cons_zero, List.getElem?_cons_succ, List.set_cons_zero, List.set_cons_succ, List.replicate_succ, List.replicate_zero, Nat.reduceSub, Bool.not_true, Bool.not_false, ite_true, ite_false, if_true, if_false, reduceCtorEq, cDv_450, cMd_450, gDv_450, gMd_450, cDv_7, cMd_7, gDv_7, gMd_7, cDv_3150, cMd_3150, gDv_3150, gMd_3150, eqO_int, eq_str, atI0, atI1, q1, q2, q3, e1, e2]⟩
/-- what stands all along: the script, the cells, how many drawn -/
structure Inv (ns cs : List Int) (k : Nat) (st : Sto) : Prop where
  a : rdL st 0 = some (ns.map D.int)
  b : rdL st 1 = some (cs.map D.int)
  c : myL st 2 = some [.int (k : Nat)]
theorem Inv.grow {ns cs : List Int} {k : Nat} {st g : Sto} (h : Inv ns cs k st) : Inv ns cs k (st ++ g) := ⟨rdL_grow h.a, rdL_grow h.b, myL_grow h.c⟩
theorem draw {ns cs : List Int} {k : Nat} {st : Sto} (h : Inv ns cs k st) (hk : k < 1000) (hlen : (cs.length : Int).natAbs.log2 < 9000) :
    ∃ (n : Int) (st' : Sto), 0 ≤ n ∧ n < 306783379 ∧ F_l_cell [.ref 1, .ref 2] st = some (.int n, st') ∧ Inv ns cs (k + 1) st' := by
  obtain ⟨n, h0, h1, e⟩ := cell h.b h.c (by decide) hk hlen
  refine ⟨n, _, h0, h1, e, ?_, ?_, ?_⟩
  · rw [rdL_set_ne (by decide), h.a]
  · rw [rdL_set_ne (by decide), h.b]
  · rw [myL_set (rdL_lt (myL_rdL h.c))]
theorem turn {ns cs : List Int} {k : Nat} {st : Sto} (h : Inv ns cs k st) (hk : k + 3 < 1000) (hlen : (cs.length : Int).natAbs.log2 < 9000) (x0 x3 x4 x5 x6 x7 x8 x9 : Option D) :
    ∃ (y4 y5 y6 y7 y8 : Option D) (st' : Sto), uF_law_1 [x0, some (.ref 1), some (.ref 2), x3, x4, x5, x6, x7, x8, x9] st = some (.nx, [x0, some (.ref 1), some (.ref 2), x3, y4, y5, y6, y7, y8, x9], st') ∧ Inv ns cs (k + 3) st' := by
  obtain ⟨n, st1, n0, n1, e1, h1⟩ := draw h (by omega) hlen
  obtain ⟨m, st2, m0, m1, e2, h2⟩ := draw h1 (by omega) hlen
  have kd : ∃ q : Int, eIf (tOf (eBin kGt (eBin opMod (eBin opDiv (eVar 4) (eC (.int 5))) (eC (.int 3))) (eC (.int 0)))) (eBin opMod (eVar 4) (eC (.int 5))) (eBin opMod (eBin opDiv (eVar 4) (eC (.int 15))) (eC (.int 2))) [x0, some (.ref 1), some (.ref 2), x3, some (.int n), x5, x6, x7, x8, x9] st1 = some (.int q, st1) := by
    by_cases c : 0 < n / 5 % 3
    · exact ⟨n % 5, by simp only [eVar_at, kVar_some, eC_at, eBin_at, k2_some, k3_some, eUn_at, k1_some, kVal_some, kBl_some, kEq_at, kBlN_some, kNe_at, kIn_at, kNotIn_at, kIx_at, ixO_tup, kLt_int, kLe_int, kGt_int, kGe_int, kLt_str, kLe_str, kGt_str, kGe_str, kIs_non, kIs_bl, kIs_int, kIs_str, kIs_tup, kIs_ref, kIsNot_non, kIsNot_bl, kIsNot_int, kIsNot_str, kIsNot_tup, kIsNot_ref, opAdd_int, opAdd_str, opSub_int, opMul_int, opDiv_int, opMod_int, opPow_int, opAnd_int, opOr_int, opNeg_int, eChain_at, kc1_some, kc2_some, kc3_true, kc3_false, kc4_some, tOf_at, kTru_some, kTru2_some, truD_non, truD_bl, truD_int, truD_tup, tAnd_at, kAnd_true, kAnd_false, tOr_at, kOr_true, kOr_false, tNot_at, kNot_some, tYes_at, eAnd_at, keAnd_some, keAnd2_true, keAnd2_false, eOr_at, keOr_some, keOr2_true, keOr2_false, eNot_at, keNot_some, keNot2_some, eIf_at, keIf_true, keIf_false, aNil_at, aCons_at, ka1_some, ka2_some, eTup_at, kTup_0, kTup_1, kTup_2, kTup_3, kTup_4, kTup_5, kTup_6, eLst_at, kLst_0, kLst_1, kLst_2, kLst_3, kLst_4, eDic0_at, eCall_at, kCall_some, o1_at, isiO_at, kIsi_some, tyD_non, tyD_bl, tyD_int, tyD_str, tyD_tup, eBM_at, kbm1_some, kbm2_some, eSl_at, ks2_some, ks3_some, ks4_some, oNone_at, oSome_at, kSome_int, slO_str, sSeq_at, kSeq_nx, kSeq_rt, kSeq_bk, kSeq_ct, sNext_at, sBreak_at, sCont_at, sRetN_at, sRet_at, kRet_some, sExpr_at, kExpr_some, sSet_at, kSet_some, sIf_at, kIf_true, kIf_false, sPar2_k, kPar2_some, sPar3_k, kPar3_some, sAsg_at, kAsg_some, kAsg2_some, mName_at, mTup_2, mTup_3, mCons_at, kmCons_some, mNil_at, sPut_at, kp1_some, kp2_some, kp3_some, kp4_some, kFn_rt, kFn_nx, mkFn_0, mkFn_1, mkFn_2, mkFn_3, mkFn_4, mkFn_5, sWhile_at, List.getElem?_cons_zero, List.getElem?_cons_succ, List.set_cons_zero, List.set_cons_succ, List.replicate_succ, List.replicate_zero, Nat.reduceSub, Bool.not_true, Bool.not_false, ite_true, ite_false, if_true, if_false, reduceCtorEq, cDv_2, cMd_2, gDv_2, gMd_2, cDv_3, cMd_3, gDv_3, gMd_3, cDv_5, cMd_5, gDv_5, gMd_5, cDv_15, cMd_15, gDv_15, gMd_15, cDv_30, cMd_30, gDv_30, gMd_30, cDv_90, cMd_90, gDv_90, gMd_90, c, decide_true]⟩
    · exact ⟨n / 15 % 2, by simp only [eVar_at, kVar_some, eC_at, eBin_at, k2_some, k3_some, eUn_at, k1_some, kVal_some, kBl_some, kEq_at, kBlN_some, kNe_at, kIn_at, kNotIn_at, kIx_at, ixO_tup, kLt_int, kLe_int, kGt_int, kGe_int, kLt_str, kLe_str, kGt_str, kGe_str, kIs_non, kIs_bl, kIs_int, kIs_str, kIs_tup, kIs_ref, kIsNot_non, kIsNot_bl, kIsNot_int, kIsNot_str, kIsNot_tup, kIsNot_ref, opAdd_int, opAdd_str, opSub_int, opMul_int, opDiv_int, opMod_int, opPow_int, opAnd_int, opOr_int, opNeg_int, eChain_at, kc1_some, kc2_some, kc3_true, kc3_false, kc4_some, tOf_at, kTru_some, kTru2_some, truD_non, truD_bl, truD_int, truD_tup, tAnd_at, kAnd_true, kAnd_false, tOr_at, kOr_true, kOr_false, tNot_at, kNot_some, tYes_at, eAnd_at, keAnd_some, keAnd2_true, keAnd2_false, eOr_at, keOr_some, keOr2_true, keOr2_false, eNot_at, keNot_some, keNot2_some, eIf_at, keIf_true, keIf_false, aNil_at, aCons_at, ka1_some, ka2_some, eTup_at, kTup_0, kTup_1, kTup_2, kTup_3, kTup_4, kTup_5, kTup_6, eLst_at, kLst_0, kLst_1, kLst_2, kLst_3, kLst_4, eDic0_at, eCall_at, kCall_some, o1_at, isiO_at, kIsi_some, tyD_non, tyD_bl, tyD_int, tyD_str, tyD_tup, eBM_at, kbm1_some, kbm2_some, eSl_at, ks2_some, ks3_some, ks4_some, oNone_at, oSome_at, kSome_int, slO_str, sSeq_at, kSeq_nx, kSeq_rt, kSeq_bk, kSeq_ct, sNext_at, sBreak_at, sCont_at, sRetN_at, sRet_at, kRet_some, sExpr_at, kExpr_some, sSet_at, kSet_some, sIf_at, kIf_true, kIf_false, sPar2_k, kPar2_some, sPar3_k, kPar3_some, sAsg_at, kAsg_some, kAsg2_some, mName_at, mTup_2, mTup_3, mCons_at, kmCons_some, mNil_at, sPut_at, kp1_some, kp2_some, kp3_some, kp4_some, kFn_rt, kFn_nx, mkFn_0, mkFn_1, mkFn_2, mkFn_3, mkFn_4, mkFn_5, sWhile_at, List.getElem?_cons_zero, List.getElem?_cons_succ, List.set_cons_zero, List.set_cons_succ, List.replicate_succ, List.replicate_zero, Nat.reduceSub, Bool.not_true, Bool.not_false, ite_true, ite_false, if_true, if_false, reduceCtorEq, cDv_2, cMd_2, gDv_2, gMd_2, cDv_3, cMd_3, gDv_3, gMd_3, cDv_5, cMd_5, gDv_5, gMd_5, cDv_15, cMd_15, gDv_15, gMd_15, cDv_30, cMd_30, gDv_30, gMd_30, cDv_90, cMd_90, gDv_90, gMd_90, c, decide_false]⟩
  obtain ⟨q, e3⟩ := kd
  obtain ⟨a, g1, a0, e4⟩ := value m q m0 m1 st2
  have h3 : Inv ns cs (k + 2) (st2 ++ g1) := h2.grow
  obtain ⟨l, st3, l0, l1, e5, h4⟩ := draw h3 (by omega) hlen
  have kd2 : ∃ q2 : Int, eIf (tOf (eBin kGt (eBin opMod (eBin opDiv (eVar 4) (eC (.int 30))) (eC (.int 3))) (eC (.int 0)))) (eVar 5) (eBin opMod (eBin opDiv (eVar 4) (eC (.int 90))) (eC (.int 5))) [x0, some (.ref 1), some (.ref 2), x3, some (.int n), some (.int q), some a.d, x7, x8, x9] st3 = some (.int q2, st3) := by
    by_cases c : 0 < n / 30 % 3
    · exact ⟨q, by simp only [eVar_at, kVar_some, eC_at, eBin_at, k2_some, k3_some, eUn_at, k1_some, kVal_some, kBl_some, kEq_at, kBlN_some, kNe_at, kIn_at, kNotIn_at, kIx_at, ixO_tup, kLt_int, kLe_int, kGt_int, kGe_int, kLt_str, kLe_str, kGt_str, kGe_str, kIs_non, kIs_bl, kIs_int, kIs_str, kIs_tup, kIs_ref, kIsNot_non, kIsNot_bl, kIsNot_int, kIsNot_str, kIsNot_tup, kIsNot_ref, opAdd_int, opAdd_str, opSub_int, opMul_int, opDiv_int, opMod_int, opPow_int, opAnd_int, opOr_int, opNeg_int, eChain_at, kc1_some, kc2_some, kc3_true, kc3_false, kc4_some, tOf_at, kTru_some, kTru2_some, truD_non, truD_bl, truD_int, truD_tup, tAnd_at, kAnd_true, kAnd_false, tOr_at, kOr_true, kOr_false, tNot_at, kNot_some, tYes_at, eAnd_at, keAnd_some, keAnd2_true, keAnd2_false, eOr_at, keOr_some, keOr2_true, keOr2_false, eNot_at, keNot_some, keNot2_some, eIf_at, keIf_true, keIf_false, aNil_at, aCons_at, ka1_some, ka2_some, eTup_at, kTup_0, kTup_1, kTup_2, kTup_3, kTup_4, kTup_5, kTup_6, eLst_at, kLst_0, kLst_1, kLst_2, kLst_3, kLst_4, eDic0_at, eCall_at, kCall_some, o1_at, isiO_at, kIsi_some, tyD_non, tyD_bl, tyD_int, tyD_str, tyD_tup, eBM_at, kbm1_some, kbm2_some, eSl_at, ks2_some, ks3_some, ks4_some, oNone_at, oSome_at, kSome_int, slO_str, sSeq_at, kSeq_nx, kSeq_rt, kSeq_bk, kSeq_ct, sNext_at, sBreak_at, sCont_at, sRetN_at, sRet_at, kRet_some, sExpr_at, kExpr_some, sSet_at, kSet_some, sIf_at, kIf_true, kIf_false, sPar2_k, kPar2_some, sPar3_k, kPar3_some, sAsg_at, kAsg_some, kAsg2_some, mName_at, mTup_2, mTup_3, mCons_at, kmCons_some, mNil_at, sPut_at, kp1_some, kp2_some, kp3_some, kp4_some, kFn_rt, kFn_nx, mkFn_0, mkFn_1, mkFn_2, mkFn_3, mkFn_4, mkFn_5, sWhile_at, List.getElem?_cons_zero, List.getElem?_cons_succ, List.set_cons_zero, List.set_cons_succ, List.replicate_succ, List.replicate_zero, Nat.reduceSub, Bool.not_true, Bool.not_false, ite_true, ite_false, if_true, if_false, reduceCtorEq, cDv_2, cMd_2, gDv_2, gMd_2, cDv_3, cMd_3, gDv_3, gMd_3, cDv_5, cMd_5, gDv_5, gMd_5, cDv_15, cMd_15, gDv_15, gMd_15, cDv_30, cMd_30, gDv_30, gMd_30, cDv_90, cMd_90, gDv_90, gMd_90, c, decide_true]⟩
    · exact ⟨n / 90 % 5, by simp only [eVar_at, kVar_some, eC_at, eBin_at, k2_some, k3_some, eUn_at, k1_some, kVal_some, kBl_some, kEq_at, kBlN_some, kNe_at, kIn_at, kNotIn_at, kIx_at, ixO_tup, kLt_int, kLe_int, kGt_int, kGe_int, kLt_str, kLe_str, kGt_str, kGe_str, kIs_non, kIs_bl, kIs_int, kIs_str, kIs_tup, kIs_ref, kIsNot_non, kIsNot_bl, kIsNot_int, kIsNot_str, kIsNot_tup, kIsNot_ref, opAdd_int, opAdd_str, opSub_int, opMul_int, opDiv_int, opMod_int, opPow_int, opAnd_int, opOr_int, opNeg_int, eChain_at, kc1_some, kc2_some, kc3_true, kc3_false, kc4_some, tOf_at, kTru_some, kTru2_some, truD_non, truD_bl, truD_int, truD_tup, tAnd_at, kAnd_true, kAnd_false, tOr_at, kOr_true, kOr_false, tNot_at, kNot_some, tYes_at, eAnd_at, keAnd_some, keAnd2_true, keAnd2_false, eOr_at, keOr_some, keOr2_true, keOr2_false, eNot_at, keNot_some, keNot2_some, eIf_at, keIf_true, keIf_false, aNil_at, aCons_at, ka1_some, ka2_some, eTup_at, kTup_0, kTup_1, kTup_2, kTup_3, kTup_4, kTup_5, kTup_6, eLst_at, kLst_0, kLst_1, kLst_2, kLst_3, kLst_4, eDic0_at, eCall_at, kCall_some, o1_at, isiO_at, kIsi_some, tyD_non, tyD_bl, tyD_int, tyD_str, tyD_tup, eBM_at, kbm1_some, kbm2_some, eSl_at, ks2_some, ks3_some, ks4_some, oNone_at, oSome_at, kSome_int, slO_str, sSeq_at, kSeq_nx, kSeq_rt, kSeq_bk, kSeq_ct, sNext_at, sBreak_at, sCont_at, sRetN_at, sRet_at, kRet_some, sExpr_at, kExpr_some, sSet_at, kSet_some, sIf_at, kIf_true, kIf_false, sPar2_k, kPar2_some, sPar3_k, kPar3_some, sAsg_at, kAsg_some, kAsg2_some, mName_at, mTup_2, mTup_3, mCons_at, kmCons_some, mNil_at, sPut_at, kp1_some, kp2_some, kp3_some, kp4_some, kFn_rt, kFn_nx, mkFn_0, mkFn_1, mkFn_2, mkFn_3, mkFn_4, mkFn_5, sWhile_at, List.getElem?_cons_zero, List.getElem?_cons_succ, List.set_cons_zero, List.set_cons_succ, List.replicate_succ, List.replicate_zero, Nat.reduceSub, Bool.not_true, Bool.not_false, ite_true, ite_false, if_true, if_false, reduceCtorEq, cDv_2, cMd_2, gDv_2, gMd_2, cDv_3, cMd_3, gDv_3, gMd_3, cDv_5, cMd_5, gDv_5, gMd_5, cDv_15, cMd_15, gDv_15, gMd_15, cDv_30, cMd_30, gDv_30, gMd_30, cDv_90, cMd_90, gDv_90, gMd_90, c, decide_false]⟩
  obtain ⟨q2, e6⟩ := kd2
  obtain ⟨b, g2, b0, e7⟩ := value l q2 l0 l1 st3
  obtain ⟨b', e8, g3, e9⟩ := turn_mid n a b n0 a0 b0 x0 (some (.ref 1)) (some (.ref 2)) x3 (some (.int q)) x8 x9 (st3 ++ g2)
  refine ⟨some (.int n), some (.int q), some a.d, some b'.d, e8, st3 ++ g2 ++ g3, ?_, h4.grow.grow⟩
  simp only [u_eq, eVar_at, kVar_some, eC_at, eBin_at, k2_some, k3_some, eUn_at, k1_some, kVal_some, kBl_some, kEq_at, kBlN_some, kNe_at, kIn_at, kNotIn_at, kIx_at, ixO_tup, kLt_int, kLe_int, kGt_int, kGe_int, kLt_str, kLe_str, kGt_str, kGe_str, kIs_non, kIs_bl, kIs_int, kIs_str, kIs_tup, kIs_ref, kIsNot_non, kIsNot_bl, kIsNot_int, kIsNot_str, kIsNot_tup, kIsNot_ref, opAdd_int, opAdd_str, opSub_int, opMul_int, opDiv_int, opMod_int, opPow_int, opAnd_int, opOr_int, opNeg_int, eChain_at, kc1_some, kc2_some, kc3_true, kc3_false, kc4_some, tOf_at, kTru_some, kTru2_some, truD_non, truD_bl, truD_int, truD_tup, tAnd_at, kAnd_true, kAnd_false, tOr_at, kOr_true, kOr_false, tNot_at, kNot_some, tYes_at, eAnd_at, keAnd_some, keAnd2_true, keAnd2_false, eOr_at, keOr_some, keOr2_true, keOr2_false, eNot_at, keNot_some, keNot2_some, eIf_at, keIf_true, keIf_false, aNil_at, aCons_at, ka1_some, ka2_some, eTup_at, kTup_0, kTup_1, kTup_2, kTup_3, kTup_4, kTup_5, kTup_6, eLst_at, kLst_0, kLst_1, kLst_2, kLst_3, kLst_4, eDic0_at, eCall_at, kCall_some, o1_at, isiO_at, kIsi_some, tyD_non, tyD_bl, tyD_int, tyD_str, tyD_tup, eBM_at, kbm1_some, kbm2_some, eSl_at, ks2_some, ks3_some, ks4_some, oNone_at, oSome_at, kSome_int, slO_str, sSeq_at, kSeq_nx, kSeq_rt, kSeq_bk, kSeq_ct, sNext_at, sBreak_at, sCont_at, sRetN_at, sRet_at, kRet_some, sExpr_at, kExpr_some, sSet_at, kSet_some, sIf_at, kIf_true, kIf_false, sPar2_k, kPar2_some, sPar3_k, kPar3_some, sAsg_at, kAsg_some, kAsg2_some, mName_at, mTup_2, mTup_3, mCons_at, kmCons_some, mNil_at, sPut_at, kp1_some, kp2_some, kp3_some, kp4_some, kFn_rt, kFn_nx, mkFn_0, mkFn_1, mkFn_2, mkFn_3, mkFn_4, mkFn_5, sWhile_at, List.getElem?_cons_zero, List.getElem?_cons_succ, List.set_cons_zero, List.set_cons_succ, List.replicate_succ, List.replicate_zero, Nat.reduceSub, Bool.not_true, Bool.not_false, ite_true, ite_false, if_true, if_false, reduceCtorEq, e1, e2, e3, e4, e5, e6, e7, e9, -eIf_at]
end Math


set_option maxRecDepth 100000
set_option maxHeartbeats 4000000
namespace Math
open MP Text PySem
theorem turns {ns cs : List Int} (hlen : (cs.length : Int).natAbs.log2 < 9000) (x0 x9 : Option D) : ∀ (ds : List D) (k : Nat) (st : Sto), Inv ns cs k st → k + 3 * ds.length < 1000 → ∀ x3 x4 x5 x6 x7 x8 : Option D,
    ∃ (y3 y4 y5 y6 y7 y8 : Option D) (st' : Sto), loopF (fun _ => True) (mName 3) uF_law_1 ds [x0, some (.ref 1), some (.ref 2), x3, x4, x5, x6, x7, x8, x9] st = some (.nx, [x0, some (.ref 1), some (.ref 2), y3, y4, y5, y6, y7, y8, x9], st') ∧ Inv ns cs (k + 3 * ds.length) st'
  | [], k, st, h, _, x3, x4, x5, x6, x7, x8 => ⟨x3, x4, x5, x6, x7, x8, st, loopF_nil, h⟩
  | d :: r, k, st, h, hk, x3, x4, x5, x6, x7, x8 => by
    rw [List.length_cons] at hk
    obtain ⟨z4, z5, z6, z7, z8, st1, e1, h1⟩ := turn h (by omega) hlen x0 (some d) x4 x5 x6 x7 x8 x9
    obtain ⟨y3, y4, y5, y6, y7, y8, st2, e2, h2⟩ := turns hlen x0 x9 r (k + 3) st1 h1 (by omega) (some d) z4 z5 z6 z7 z8
    refine ⟨y3, y4, y5, y6, y7, y8, st2, ?_, ?_⟩
    · simp only [loopF_cons, kF1_some, eVar_at, kVar_some, eC_at, eBin_at, k2_some, k3_some, eUn_at, k1_some, kVal_some, kBl_some, kEq_at, kBlN_some, kNe_at, kIn_at, kNotIn_at, kIx_at, ixO_tup, kLt_int, kLe_int, kGt_int, kGe_int, kLt_str, kLe_str, kGt_str, kGe_str, kIs_non, kIs_bl, kIs_int, kIs_str, kIs_tup, kIs_ref, kIsNot_non, kIsNot_bl, kIsNot_int, kIsNot_str, kIsNot_tup, kIsNot_ref, opAdd_int, opAdd_str, opSub_int, opMul_int, opDiv_int, opMod_int, opPow_int, opAnd_int, opOr_int, opNeg_int, eChain_at, kc1_some, kc2_some, kc3_true, kc3_false, kc4_some, tOf_at, kTru_some, kTru2_some, truD_non, truD_bl, truD_int, truD_tup, tAnd_at, kAnd_true, kAnd_false, tOr_at, kOr_true, kOr_false, tNot_at, kNot_some, tYes_at, eAnd_at, keAnd_some, keAnd2_true, keAnd2_false, eOr_at, keOr_some, keOr2_true, keOr2_false, eNot_at, keNot_some, keNot2_some, eIf_at, keIf_true, keIf_false, aNil_at, aCons_at, ka1_some, ka2_some, eTup_at, kTup_0, kTup_1, kTup_2, kTup_3, kTup_4, kTup_5, kTup_6, eLst_at, kLst_0, kLst_1, kLst_2, kLst_3, kLst_4, eDic0_at, eCall_at, kCall_some, o1_at, isiO_at, kIsi_some, tyD_non, tyD_bl, tyD_int, tyD_str, tyD_tup, eBM_at, kbm1_some, kbm2_some, eSl_at, ks2_some, ks3_some, ks4_some, oNone_at, oSome_at, kSome_int, slO_str, sSeq_at, kSeq_nx, kSeq_rt, kSeq_bk, kSeq_ct, sNext_at, sBreak_at, sCont_at, sRetN_at, sRet_at, kRet_some, sExpr_at, kExpr_some, sSet_at, kSet_some, sIf_at, kIf_true, kIf_false, sPar2_k, kPar2_some, sPar3_k, kPar3_some, sAsg_at, kAsg_some, kAsg2_some, mName_at, mTup_2, mTup_3, mCons_at, kmCons_some, mNil_at, sPut_at, kp1_some, kp2_some, kp3_some, kp4_some, kFn_rt, kFn_nx, mkFn_0, mkFn_1, mkFn_2, mkFn_3, mkFn_4, mkFn_5, sWhile_at, List.getElem?_cons_zero, List.getElem?_cons_succ, List.set_cons_zero, List.set_cons_succ, List.replicate_succ, List.replicate_zero, Nat.reduceSub, Bool.not_true, Bool.not_false, ite_true, ite_false, if_true, if_false, reduceCtorEq, e1, kF2_nx, e2]
    · rw [List.length_cons]
      exact (show k + 3 + 3 * r.length = k + 3 * (r.length + 1) by omega) ▸ h2
theorem cutG_map {α β : Type} (f : α → β) (xs : List α) (lo hi : Option Int) : cutG (xs.map f) lo hi = (cutG xs lo hi).map f := by
  unfold cutG
  rw [List.length_map, List.map_take, List.map_drop]
theorem rep_len (n : Int) (h0 : 0 ≤ n) (h1 : n < 180) : (repS [120] n).length ≤ 180 := by
  unfold repS
  rw [List.length_flatten, List.map_replicate, List.sum_replicate_nat]
  simp only [List.length_singleton]
  omega
theorem law_true (ns : List Int) (hns : ns.length ≤ 63) : ∃ st', F_law [.ref 0] [.fz (ns.map D.int)] = some (.bl true, st') := by
  have e0 : slO (.ref 0) (some 1) (some 40) [.fz (ns.map D.int)] = some (.ref 1, [.fz (ns.map D.int), .lst ((cutG ns (some 1) (some 40)).map D.int)]) := by
    rw [← cutG_map]
    rfl
  generalize hc : cutG ns (some 1) (some 40) = cs at e0
  have hcl : cs.length ≤ 63 := by
    rw [← hc]
    exact Nat.le_trans (cutG_len _ _ _) hns
  have hlen : (cs.length : Int).natAbs.log2 < 9000 := by
    have h2 : cs.length < 2 ^ 100 := by
      have h3 : (2 : Nat) ^ 100 = 1267650600228229401496703205376 := by decide
      omega
    have := PySem.Flt.log2_lt_of (n := cs.length) (k := 100) (by decide) h2
    rw [Int.natAbs_natCast]
    omega
  have i0 : Inv ns cs 0 [.fz (ns.map D.int), .lst (cs.map D.int), .lst [.int 0]] := ⟨rfl, rfl, rfl⟩
  obtain ⟨y3, y4, y5, y6, y7, y8, st1, e1, i1⟩ := turns hlen (some (.ref 0)) none (rngD 0 8) 0 _ i0 (by decide) none none none none none none
  have e2 : sFor (iR1 (aCons (eC (.int 8)) aNil)) (mName 3) uF_law_1 [some (.ref 0), some (.ref 1), some (.ref 2), none, none, none, none, none, none, none] [.fz (ns.map D.int), .lst (cs.map D.int), .lst [.int 0]] = some (.nx, [some (.ref 0), some (.ref 1), some (.ref 2), y3, y4, y5, y6, y7, y8, none], st1) := by
    rw [sFor_run (ds := rngD 0 8) (by
      simp only [iR1_at, eVar_at, kVar_some, eC_at, eBin_at, k2_some, k3_some, eUn_at, k1_some, kVal_some, kBl_some, kEq_at, kBlN_some, kNe_at, kIn_at, kNotIn_at, kIx_at, ixO_tup, kLt_int, kLe_int, kGt_int, kGe_int, kLt_str, kLe_str, kGt_str, kGe_str, kIs_non, kIs_bl, kIs_int, kIs_str, kIs_tup, kIs_ref, kIsNot_non, kIsNot_bl, kIsNot_int, kIsNot_str, kIsNot_tup, kIsNot_ref, opAdd_int, opAdd_str, opSub_int, opMul_int, opDiv_int, opMod_int, opPow_int, opAnd_int, opOr_int, opNeg_int, eChain_at, kc1_some, kc2_some, kc3_true, kc3_false, kc4_some, tOf_at, kTru_some, kTru2_some, truD_non, truD_bl, truD_int, truD_tup, tAnd_at, kAnd_true, kAnd_false, tOr_at, kOr_true, kOr_false, tNot_at, kNot_some, tYes_at, eAnd_at, keAnd_some, keAnd2_true, keAnd2_false, eOr_at, keOr_some, keOr2_true, keOr2_false, eNot_at, keNot_some, keNot2_some, eIf_at, keIf_true, keIf_false, aNil_at, aCons_at, ka1_some, ka2_some, eTup_at, kTup_0, kTup_1, kTup_2, kTup_3, kTup_4, kTup_5, kTup_6, eLst_at, kLst_0, kLst_1, kLst_2, kLst_3, kLst_4, eDic0_at, eCall_at, kCall_some, o1_at, isiO_at, kIsi_some, tyD_non, tyD_bl, tyD_int, tyD_str, tyD_tup, eBM_at, kbm1_some, kbm2_some, eSl_at, ks2_some, ks3_some, ks4_some, oNone_at, oSome_at, kSome_int, slO_str, sSeq_at, kSeq_nx, kSeq_rt, kSeq_bk, kSeq_ct, sNext_at, sBreak_at, sCont_at, sRetN_at, sRet_at, kRet_some, sExpr_at, kExpr_some, sSet_at, kSet_some, sIf_at, kIf_true, kIf_false, sPar2_k, kPar2_some, sPar3_k, kPar3_some, sAsg_at, kAsg_some, kAsg2_some, mName_at, mTup_2, mTup_3, mCons_at, kmCons_some, mNil_at, sPut_at, kp1_some, kp2_some, kp3_some, kp4_some, kFn_rt, kFn_nx, mkFn_0, mkFn_1, mkFn_2, mkFn_3, mkFn_4, mkFn_5, sWhile_at, List.getElem?_cons_zero, List.getElem?_cons_succ, List.set_cons_zero, List.set_cons_succ, List.replicate_succ, List.replicate_zero, Nat.reduceSub, Bool.not_true, Bool.not_false, ite_true, ite_false, if_true, if_false, reduceCtorEq]
      exact kR1_some (n := 8) (by decide)), e1]
  obtain ⟨x, ex⟩ := cell_at (k := 0) i1.a
  have ex : F_l_cell_at [.ref 0, .int 0] st1 = some (.int x, st1) := ex
  have r0 : 0 ≤ x % 180 := by omega
  have r1 : x % 180 < 180 := by omega
  have rl := rep_len (x % 180) r0 r1
  have m1 : -(LIM : Int) ≤ x % 180 ∧ x % 180 ≤ (LIM : Nat) ∧ [120].length * (x % 180).toNat ≤ LIM := by
    have : LIM = 16000000 := rfl
    rw [List.length_singleton]
    omega
  have e3 : opMul (.str [120]) (.int (x % 180)) st1 = some (.str (repS [120] (x % 180)), st1) := by
    show (if _ then _ else _) = _
    rw [if_pos m1]
  generalize repS [120] (x % 180) = w at rl e3
  have q1 : [99, 117, 115, 116, 111, 109, 101, 114, 32, 110, 117, 109, 98, 101, 114, 32].length + w.length ≤ LIM := lim_le (by show 16 + w.length ≤ 1000; omega)
  generalize hv : [99, 117, 115, 116, 111, 109, 101, 114, 32, 110, 117, 109, 98, 101, 114, 32] ++ w = v
  have vl : v.length ≤ 200 := by
    rw [← hv, List.length_append]
    show 16 + w.length ≤ 200
    omega
  have q2 : v.length + [49].length ≤ LIM := lim_le (by rw [List.length_singleton]; omega)
  have q3 : v.length + [50].length ≤ LIM := lim_le (by rw [List.length_singleton]; omega)
  obtain ⟨g1, e4⟩ := right_is (.txt (v ++ [49])) (.txt (v ++ [50])) (by show (v ++ [49]).length ≤ 1000; rw [List.length_append, List.length_singleton]; omega) (by show (v ++ [50]).length ≤ 1000; rw [List.length_append, List.length_singleton]; omega) st1
  have ex2 : F_l_cell_at [.ref 0, .int 0] (st1 ++ g1) = some (.int x, st1 ++ g1) := by
    have := i1.a
    by_cases hp : (0 : Int) < (ns.length : Int)
    · have f1 : ∀ st : Sto, rdL st 0 = some (ns.map D.int) → F_l_cell_at [.ref 0, .int 0] st = (L2.atI (ns.map D.int) 0).map fun d => (d, st) := fun st h => by
        simp only [F_l_cell_at, b_l_cell_at, eVar_at, kVar_some, eC_at, eBin_at, k2_some, k3_some, eUn_at, k1_some, kVal_some, kBl_some, kEq_at, kBlN_some, kNe_at, kIn_at, kNotIn_at, kIx_at, ixO_tup, kLt_int, kLe_int, kGt_int, kGe_int, kLt_str, kLe_str, kGt_str, kGe_str, kIs_non, kIs_bl, kIs_int, kIs_str, kIs_tup, kIs_ref, kIsNot_non, kIsNot_bl, kIsNot_int, kIsNot_str, kIsNot_tup, kIsNot_ref, opAdd_int, opAdd_str, opSub_int, opMul_int, opDiv_int, opMod_int, opPow_int, opAnd_int, opOr_int, opNeg_int, eChain_at, kc1_some, kc2_some, kc3_true, kc3_false, kc4_some, tOf_at, kTru_some, kTru2_some, truD_non, truD_bl, truD_int, truD_tup, tAnd_at, kAnd_true, kAnd_false, tOr_at, kOr_true, kOr_false, tNot_at, kNot_some, tYes_at, eAnd_at, keAnd_some, keAnd2_true, keAnd2_false, eOr_at, keOr_some, keOr2_true, keOr2_false, eNot_at, keNot_some, keNot2_some, eIf_at, keIf_true, keIf_false, aNil_at, aCons_at, ka1_some, ka2_some, eTup_at, kTup_0, kTup_1, kTup_2, kTup_3, kTup_4, kTup_5, kTup_6, eLst_at, kLst_0, kLst_1, kLst_2, kLst_3, kLst_4, eDic0_at, eCall_at, kCall_some, o1_at, isiO_at, kIsi_some, tyD_non, tyD_bl, tyD_int, tyD_str, tyD_tup, eBM_at, kbm1_some, kbm2_some, eSl_at, ks2_some, ks3_some, ks4_some, oNone_at, oSome_at, kSome_int, slO_str, sSeq_at, kSeq_nx, kSeq_rt, kSeq_bk, kSeq_ct, sNext_at, sBreak_at, sCont_at, sRetN_at, sRet_at, kRet_some, sExpr_at, kExpr_some, sSet_at, kSet_some, sIf_at, kIf_true, kIf_false, sPar2_k, kPar2_some, sPar3_k, kPar3_some, sAsg_at, kAsg_some, kAsg2_some, mName_at, mTup_2, mTup_3, mCons_at, kmCons_some, mNil_at, sPut_at, kp1_some, kp2_some, kp3_some, kp4_some, kFn_rt, kFn_nx, mkFn_0, mkFn_1, mkFn_2, mkFn_3, mkFn_4, mkFn_5, sWhile_at, List.getElem?_cons_zero, List.getElem?_cons_succ, List.set_cons_zero, List.set_cons_succ, List.replicate_succ, List.replicate_zero, Nat.reduceSub, Bool.not_true, Bool.not_false, ite_true, ite_false, if_true, if_false, reduceCtorEq, lenO_lst h, List.length_map, ixO_lst h, hp, decide_true]
        cases L2.atI (ns.map D.int) 0 <;> rfl
      rw [f1 _ i1.a] at ex
      rw [f1 _ (rdL_grow i1.a)]
      cases hz : L2.atI (ns.map D.int) 0 with
      | none => rw [hz] at ex; cases ex
      | some y => rw [hz] at ex; cases ex; rfl
    · have f1 : ∀ st : Sto, rdL st 0 = some (ns.map D.int) → F_l_cell_at [.ref 0, .int 0] st = some (.int 0, st) := fun st h => by
        simp only [F_l_cell_at, b_l_cell_at, eVar_at, kVar_some, eC_at, eBin_at, k2_some, k3_some, eUn_at, k1_some, kVal_some, kBl_some, kEq_at, kBlN_some, kNe_at, kIn_at, kNotIn_at, kIx_at, ixO_tup, kLt_int, kLe_int, kGt_int, kGe_int, kLt_str, kLe_str, kGt_str, kGe_str, kIs_non, kIs_bl, kIs_int, kIs_str, kIs_tup, kIs_ref, kIsNot_non, kIsNot_bl, kIsNot_int, kIsNot_str, kIsNot_tup, kIsNot_ref, opAdd_int, opAdd_str, opSub_int, opMul_int, opDiv_int, opMod_int, opPow_int, opAnd_int, opOr_int, opNeg_int, eChain_at, kc1_some, kc2_some, kc3_true, kc3_false, kc4_some, tOf_at, kTru_some, kTru2_some, truD_non, truD_bl, truD_int, truD_tup, tAnd_at, kAnd_true, kAnd_false, tOr_at, kOr_true, kOr_false, tNot_at, kNot_some, tYes_at, eAnd_at, keAnd_some, keAnd2_true, keAnd2_false, eOr_at, keOr_some, keOr2_true, keOr2_false, eNot_at, keNot_some, keNot2_some, eIf_at, keIf_true, keIf_false, aNil_at, aCons_at, ka1_some, ka2_some, eTup_at, kTup_0, kTup_1, kTup_2, kTup_3, kTup_4, kTup_5, kTup_6, eLst_at, kLst_0, kLst_1, kLst_2, kLst_3, kLst_4, eDic0_at, eCall_at, kCall_some, o1_at, isiO_at, kIsi_some, tyD_non, tyD_bl, tyD_int, tyD_str, tyD_tup, eBM_at, kbm1_some, kbm2_some, eSl_at, ks2_some, ks3_some, ks4_some, oNone_at, oSome_at, kSome_int, slO_str, sSeq_at, kSeq_nx, kSeq_rt, kSeq_bk, kSeq_ct, sNext_at, sBreak_at, sCont_at, sRetN_at, sRet_at, kRet_some, sExpr_at, kExpr_some, sSet_at, kSet_some, sIf_at, kIf_true, kIf_false, sPar2_k, kPar2_some, sPar3_k, kPar3_some, sAsg_at, kAsg_some, kAsg2_some, mName_at, mTup_2, mTup_3, mCons_at, kmCons_some, mNil_at, sPut_at, kp1_some, kp2_some, kp3_some, kp4_some, kFn_rt, kFn_nx, mkFn_0, mkFn_1, mkFn_2, mkFn_3, mkFn_4, mkFn_5, sWhile_at, List.getElem?_cons_zero, List.getElem?_cons_succ, List.set_cons_zero, List.set_cons_succ, List.replicate_succ, List.replicate_zero, Nat.reduceSub, Bool.not_true, Bool.not_false, ite_true, ite_false, if_true, if_false, reduceCtorEq, lenO_lst h, List.length_map, hp, decide_false]
      rw [f1 _ i1.a] at ex
      rw [f1 _ (rdL_grow i1.a)]
      cases ex
      rfl
  have t0 : 0 ≤ x % 2 := by omega
  have t1 : x % 2 < 2 := by omega
  obtain ⟨g2, e5⟩ := right_is (.tru (x % 2 == 1)) (.num (x % 2)) trivial ⟨by omega, by omega⟩ (st1 ++ g1)
  simp only [W.d] at e4 e5
  have hl : kLst (some ([.int 0], [.fz (ns.map D.int), .lst (cs.map D.int)])) = some (.ref 2, [.fz (ns.map D.int), .lst (cs.map D.int), .lst [.int 0]]) := rfl
  refine ⟨st1 ++ g1 ++ g2, ?_⟩
  simp only [F_law, b_law, eVar_at, kVar_some, eC_at, eBin_at, k2_some, k3_some, eUn_at, k1_some, kVal_some, kBl_some, kEq_at, kBlN_some, kNe_at, kIn_at, kNotIn_at, kIx_at, ixO_tup, kLt_int, kLe_int, kGt_int, kGe_int, kLt_str, kLe_str, kGt_str, kGe_str, kIs_non, kIs_bl, kIs_int, kIs_str, kIs_tup, kIs_ref, kIsNot_non, kIsNot_bl, kIsNot_int, kIsNot_str, kIsNot_tup, kIsNot_ref, opAdd_int, opAdd_str, opSub_int, opMul_int, opDiv_int, opMod_int, opPow_int, opAnd_int, opOr_int, opNeg_int, eChain_at, kc1_some, kc2_some, kc3_true, kc3_false, kc4_some, tOf_at, kTru_some, kTru2_some, truD_non, truD_bl, truD_int, truD_tup, tAnd_at, kAnd_true, kAnd_false, tOr_at, kOr_true, kOr_false, tNot_at, kNot_some, tYes_at, eAnd_at, keAnd_some, keAnd2_true, keAnd2_false, eOr_at, keOr_some, keOr2_true, keOr2_false, eNot_at, keNot_some, keNot2_some, eIf_at, keIf_true, keIf_false, aNil_at, aCons_at, ka1_some, ka2_some, eTup_at, kTup_0, kTup_1, kTup_2, kTup_3, kTup_4, kTup_5, kTup_6, eLst_at, kLst_0, kLst_1, kLst_2, kLst_3, kLst_4, eDic0_at, eCall_at, kCall_some, o1_at, isiO_at, kIsi_some, tyD_non, tyD_bl, tyD_int, tyD_str, tyD_tup, eBM_at, kbm1_some, kbm2_some, eSl_at, ks2_some, ks3_some, ks4_some, oNone_at, oSome_at, kSome_int, slO_str, sSeq_at, kSeq_nx, kSeq_rt, kSeq_bk, kSeq_ct, sNext_at, sBreak_at, sCont_at, sRetN_at, sRet_at, kRet_some, sExpr_at, kExpr_some, sSet_at, kSet_some, sIf_at, kIf_true, kIf_false, sPar2_k, kPar2_some, sPar3_k, kPar3_some, sAsg_at, kAsg_some, kAsg2_some, mName_at, mTup_2, mTup_3, mCons_at, kmCons_some, mNil_at, sPut_at, kp1_some, kp2_some, kp3_some, kp4_some, kFn_rt, kFn_nx, mkFn_0, mkFn_1, mkFn_2, mkFn_3, mkFn_4, mkFn_5, sWhile_at, List.getElem?_cons_zero, List.getElem?_cons_succ, List.set_cons_zero, List.set_cons_succ, List.replicate_succ, List.replicate_zero, Nat.reduceSub, Bool.not_true, Bool.not_false, ite_true, ite_false, if_true, if_false, reduceCtorEq, e0, hl, e2, ex, ex2, e3, q1, hv, q2, q3, e4, e5, eqO_int, cMd_180, gMd_180, cMd_2, gMd_2, -kLst_1]
end Math

open PySem PySem.W PyProof.Rows
set_option maxRecDepth 100000 in
set_option maxHeartbeats 0 in
theorem PySem.Challenge.cw_grassnake_k10_signs_holds : PySem.Challenge.rw_grassnake_k10_signs.Holds := by
  w_on; o_law; k_head; (case hw => w_witness2)
  k_fill
  refine MP.walk (l := PySem.Challenge.rw_grassnake_k10_signs) (x := "_law_script") (k := 43) rfl rfl ⟨rfl, by decide, by decide⟩ (fun w h Y => PySem.W.kIn_of Y) ?F
  case F =>
    intro w mg fa h KX G hmg
    refine' Text.all_mk KX G hmg ?a0 ?l0 ?c0 ?k0 ?a1 ?l1 ?c1 ?k1 ?a2 ?l2 ?c2 ?k2 ?a3 ?l3 ?c3 ?k3 ?a4 ?l4 ?c4 ?k4 ?a5 ?l5 ?c5 ?k5 ?a6 ?l6 ?c6 ?k6 ?a7 ?l7 ?c7 ?k7 ?a8 ?l8 ?c8 ?k8 ?a9 ?l9 ?c9 ?k9 ?a10 ?l10 ?c10 ?k10 ?a11 ?l11 ?c11 ?k11 ?a12 ?l12 ?c12 ?k12 ?a13 ?l13 ?c13 ?k13 ?a14 ?l14 ?c14 ?k14 ?a15 ?l15 ?c15 ?k15 ?a16 ?l16 ?c16 ?k16 ?a17 ?l17 ?c17 ?k17 ?a18 ?l18 ?c18 ?k18 ?a19 ?l19 ?c19 ?k19 ?a20 ?l20 ?c20 ?k20 ?n_GREATEST ?n_MOST_SIGNS ?z_abs ?z_all ?z_bool ?z_int ?z_isinstance ?z_len ?z_list ?z_range ?z_tuple Math.law_true
    (case a0 => k_is)
    (case l0 => k_is)
    (case c0 => k_is)
    (case k0 => k_is)
    (case a1 => k_is)
    (case l1 => k_is)
    (case c1 => k_is)
    (case k1 => k_is)
    (case a2 => k_is)
    (case l2 => k_is)
    (case c2 => k_is)
    (case k2 => k_is)
    (case a3 => k_is)
    (case l3 => k_is)
    (case c3 => k_is)
    (case k3 => k_is)
    (case a4 => k_is)
    (case l4 => k_is)
    (case c4 => k_is)
    (case k4 => k_is)
    (case a5 => k_is)
    (case l5 => k_is)
    (case c5 => k_is)
    (case k5 => k_is)
    (case a6 => k_is)
    (case l6 => k_is)
    (case c6 => k_is)
    (case k6 => k_is)
    (case a7 => k_is)
    (case l7 => k_is)
    (case c7 => k_is)
    (case k7 => k_is)
    (case a8 => k_is)
    (case l8 => k_is)
    (case c8 => k_is)
    (case k8 => k_is)
    (case a9 => k_is)
    (case l9 => k_is)
    (case c9 => k_is)
    (case k9 => k_is)
    (case a10 => k_is)
    (case l10 => k_is)
    (case c10 => k_is)
    (case k10 => k_is)
    (case a11 => k_is)
    (case l11 => k_is)
    (case c11 => k_is)
    (case k11 => k_is)
    (case a12 => k_is)
    (case l12 => k_is)
    (case c12 => k_is)
    (case k12 => k_is)
    (case a13 => k_is)
    (case l13 => k_is)
    (case c13 => k_is)
    (case k13 => k_is)
    (case a14 => k_is)
    (case l14 => k_is)
    (case c14 => k_is)
    (case k14 => k_is)
    (case a15 => k_is)
    (case l15 => k_is)
    (case c15 => k_is)
    (case k15 => k_is)
    (case a16 => k_is)
    (case l16 => k_is)
    (case c16 => k_is)
    (case k16 => k_is)
    (case a17 => k_is)
    (case l17 => k_is)
    (case c17 => k_is)
    (case k17 => k_is)
    (case a18 => k_is)
    (case l18 => k_is)
    (case c18 => k_is)
    (case k18 => k_is)
    (case a19 => k_is)
    (case l19 => k_is)
    (case c19 => k_is)
    (case k19 => k_is)
    (case a20 => k_is)
    (case l20 => k_is)
    (case c20 => k_is)
    (case k20 => k_is)
    (case n_GREATEST => k_is)
    (case n_MOST_SIGNS => k_is)
    (case z_abs => k_is)
    (case z_all => k_is)
    (case z_bool => k_is)
    (case z_int => k_is)
    (case z_isinstance => k_is)
    (case z_len => k_is)
    (case z_list => k_is)
    (case z_range => k_is)
    (case z_tuple => k_is)
#print axioms PySem.Challenge.cw_grassnake_k10_signs_holds
