import PyProof.Rows.All
import Wide.All
import OpenK.AllK
import Wide.FinOn
import HandS.ForMost
import HandS.Flow
import HandS.Wide
import HandS.Style
import HandS.IsInst
import HandS.Codes
import HandS.Defaults
import HandS.More
import PySem.Challenge.RW_grassnake_k13_givers
set_option Elab.async false
set_option linter.all false
set_option maxRecDepth 100000
/-! MP: a small world of data (D), objects (Ob) and a store; mirrors of Python code as functions over these; and that the code does what its mirror tells. -/
namespace MP
open PySem PySem.Spec PyProof.Rows L2

/-- data: None, truths, numbers, texts (their codes), tuples, and what is an object of the store -/
inductive D where
  | non
  | bl (b : Bool)
  | int (i : Int)
  | str (l : List Nat)
  | tup (ds : List D)
  | ref (n : Nat)
/-- objects: a list, a list that is only read, a dict by ints and texts, an instance of a class -/
inductive Ob where
  | lst (ds : List D)
  | fz (ds : List D)
  | dic (kvs : List (Key × D))
  | ins (c : Nat) (fs : List (Str × D))
abbrev Sto := List Ob
def mkS (l : List Nat) : Str := ⟨l.toArray⟩
theorem mkS_len (l : List Nat) : (mkS l).length = l.length := by simp [mkS, Str.length]
theorem mkS_tl (l : List Nat) : (mkS l).cps.toList = l := rfl
theorem mkS_inj {l m : List Nat} (h : mkS l = mkS m) : l = m := by
  have := congrArg (fun s : Str => s.cps.toList) h
  exact this
theorem mkS_of (z : Str) : mkS z.cps.toList = z := by
  cases z
  rfl

/-- the signs of a text are signs -/
def okS (l : List Nat) : Bool := l.all fun c => decide (c < 1114112)
theorem okS_mem {l : List Nat} (h : okS l = true) : ∀ c ∈ l, c < 1114112 := fun c hc => of_decide_eq_true (List.all_eq_true.mp h c hc)
theorem okS_of {l : List Nat} (h : ∀ c ∈ l, c < 1114112) : okS l = true := List.all_eq_true.mpr fun c hc => decide_eq_true (h c hc)
theorem okS_app {l m : List Nat} (h : okS l = true) (h2 : okS m = true) : okS (l ++ m) = true := okS_of fun c hc => (List.mem_append.mp hc).elim (okS_mem h c) (okS_mem h2 c)
theorem okS_sub {l m : List Nat} (h : okS l = true) (s : ∀ c ∈ m, c ∈ l) : okS m = true := okS_of fun c hc => okS_mem h c (s c hc)

/-! ### data and values -/
mutual
inductive VR (K : PySem.W.Frag) (as : List Addr) (H : Hp) : D → V → Prop
  | non : VR K as H .non .non
  | bl (b : Bool) : VR K as H (.bl b) (.bl b)
  | int (i : Int) : VR K as H (.int i) (.int i)
  | str {l : List Nat} : okS l = true → VR K as H (.str l) (.str (mkS l))
  | tup {a : Addr} {xs : List V} {ds : List D} : SqT K H a xs → VRs K as H ds xs → VR K as H (.tup ds) (.ref a)
  | ref {n : Nat} {a : Addr} : as[n]? = some a → VR K as H (.ref n) (.ref a)
inductive VRs (K : PySem.W.Frag) (as : List Addr) (H : Hp) : List D → List V → Prop
  | nil : VRs K as H [] []
  | cons {d : D} {ds : List D} {v : V} {vs : List V} : VR K as H d v → VRs K as H ds vs → VRs K as H (d :: ds) (v :: vs)
end

/-- the heap has grown, or what changes in it has changed -/
structure Ext (K : PySem.W.Frag) (as : List Addr) (H : Hp) (as' : List Addr) (H' : Hp) : Prop where
  pre : ∃ m, as' = as ++ m
  tup : ∀ a xs, SqT K H a xs → SqT K H' a xs
section
variable {K : PySem.W.Frag} {as as' as'' : List Addr} {H H' H'' : Hp} {d : D} {v : V} {ds : List D} {vs : List V}
theorem Ext.refl : Ext K as H as H := ⟨⟨[], by simp⟩, fun _ _ h => h⟩
theorem Ext.trans (a : Ext K as H as' H') (b : Ext K as' H' as'' H'') : Ext K as H as'' H'' := by
  obtain ⟨m, e⟩ := a.pre
  obtain ⟨n, e2⟩ := b.pre
  exact ⟨⟨m ++ n, by rw [e2, e, List.append_assoc]⟩, fun x xs h => b.tup x xs (a.tup x xs h)⟩
theorem Ext.at (x : Ext K as H as' H') {n : Nat} {a : Addr} (h : as[n]? = some a) : as'[n]? = some a := by
  obtain ⟨m, e⟩ := x.pre
  rw [e, List.getElem?_append_left (List.getElem?_eq_some_iff.mp h).1]
  exact h
mutual
theorem VR.mono (x : Ext K as H as' H') : ∀ {d : D} {v : V}, VR K as H d v → VR K as' H' d v
  | _, _, .non => .non
  | _, _, .bl b => .bl b
  | _, _, .int i => .int i
  | _, _, .str h => .str h
  | _, _, .tup h r => .tup (x.tup _ _ h) (VRs.mono x r)
  | _, _, .ref h => .ref (x.at h)
theorem VRs.mono (x : Ext K as H as' H') : ∀ {ds : List D} {vs : List V}, VRs K as H ds vs → VRs K as' H' ds vs
  | _, _, .nil => .nil
  | _, _, .cons a b => .cons (VR.mono x a) (VRs.mono x b)
end
theorem VRs.length : ∀ {ds : List D} {vs : List V}, VRs K as H ds vs → ds.length = vs.length
  | _, _, .nil => rfl
  | _, _, .cons _ t => by rw [List.length_cons, List.length_cons, t.length]
theorem VRs.get : ∀ {ds : List D} {vs : List V} {i : Nat} {d : D}, VRs K as H ds vs → ds[i]? = some d → ∃ v, vs[i]? = some v ∧ VR K as H d v
  | _, _, _, _, .nil, e => by simp at e
  | _, _, 0, _, .cons r _, e => by
    simp at e
    subst e
    exact ⟨_, rfl, r⟩
  | _, _, i + 1, d, .cons _ t, e => by
    obtain ⟨u, h1, h2⟩ := VRs.get (i := i) (d := d) t (by simpa using e)
    exact ⟨u, by simpa using h1, h2⟩
theorem VRs.set {d : D} {v : V} (r : VR K as H d v) : ∀ {ds : List D} {vs : List V} (i : Nat), VRs K as H ds vs → VRs K as H (ds.set i d) (vs.set i v)
  | _, _, _, .nil => .nil
  | _, _, 0, .cons _ t => .cons r t
  | _, _, i + 1, .cons q t => .cons q (VRs.set r i t)
theorem VRs.append : ∀ {ds es : List D} {vs ws : List V}, VRs K as H ds vs → VRs K as H es ws → VRs K as H (ds ++ es) (vs ++ ws)
  | _, _, _, _, .nil, s => s
  | _, _, _, _, .cons r t, s => .cons r (VRs.append t s)
theorem VRs.take : ∀ {ds : List D} {vs : List V} (n : Nat), VRs K as H ds vs → VRs K as H (ds.take n) (vs.take n)
  | _, _, 0, _ => .nil
  | _, _, _ + 1, .nil => .nil
  | _, _, n + 1, .cons r t => .cons r (VRs.take n t)
theorem VRs.drop : ∀ {ds : List D} {vs : List V} (n : Nat), VRs K as H ds vs → VRs K as H (ds.drop n) (vs.drop n)
  | _, _, 0, r => r
  | _, _, _ + 1, .nil => .nil
  | _, _, n + 1, .cons _ t => VRs.drop n t
theorem VRs.dropLast {ds : List D} {vs : List V} (h : VRs K as H ds vs) : VRs K as H ds.dropLast vs.dropLast := by
  rw [List.dropLast_eq_take, List.dropLast_eq_take, h.length]
  exact h.take _
theorem VRs.isEmpty {ds : List D} {vs : List V} (h : VRs K as H ds vs) : ds.isEmpty = vs.isEmpty := by
  cases h <;> rfl
theorem VRs.ints : ∀ (ns : List Int), VRs K as H (ns.map D.int) (ns.map V.int)
  | [] => .nil
  | n :: r => .cons (.int n) (VRs.ints r)
end

/-! ### objects -/
/-- the classes' addresses -/
abbrev Cad := Nat → Addr
def ObR (K : PySem.W.Frag) (cad : Cad) (as : List Addr) (H : Hp) (a : Addr) : Ob → Prop
  | .lst ds => ∃ xs, H a = some (.lst xs) ∧ VRs K as H ds xs
  | .fz ds => ∃ xs, ((∃ o, H a = some (.frz o (.lst xs))) ∨ ∀ H', SqL K H' a xs) ∧ VRs K as H ds xs
  | .dic kvs => ∃ xs, H a = some (.dK xs) ∧ Paired (fun (p : Key × D) (q : Key × V) => p.1 = q.1 ∧ VR K as H p.2 q.2) kvs xs
  | .ins c fs => ∃ dx xs, H a = some (.ins (cad c) dx xs) ∧ Paired (fun (p : Str × D) (q : Str × V) => p.1 = q.1 ∧ VR K as H p.2 q.2) fs xs
def Ob.own : Ob → Bool
  | .fz _ => false
  | _ => true
structure Rel (K : PySem.W.Frag) (cad : Cad) (as : List Addr) (st : Sto) (H : Hp) : Prop where
  len : as.length = st.length
  inj : ∀ (i j : Nat) (a : Addr) (o u : Ob), as[i]? = some a → as[j]? = some a → st[i]? = some o → st[j]? = some u → o.own = true → u.own = true → i = j
  ob : ∀ (n : Nat) (o : Ob) (a : Addr), st[n]? = some o → as[n]? = some a → ObR K cad as H a o
section
variable {K : PySem.W.Frag} {cad : Cad} {as as' : List Addr} {st : Sto} {H H' : Hp} {a p : Addr} {o : Ob} {n : Nat}
theorem Paired.map2 {α β : Type} {F G : α → β → Prop} (f : ∀ a b, F a b → G a b) : ∀ {l₁ : List α} {l₂ : List β}, Paired F l₁ l₂ → Paired G l₁ l₂
  | _, _, .nil => .nil
  | _, _, .cons r t => .cons (f _ _ r) (Paired.map2 f t)
/-- what stands at a stays -/
theorem ObR.mono (x : Ext K as H as' H') (h : ObR K cad as H a o) (e : o.own = true → H' a = H a) (f : ∀ u xs, H a = some (.frz u (.lst xs)) → H' a = some (.frz u (.lst xs))) : ObR K cad as' H' a o := by
  cases o with
  | lst ds =>
    obtain ⟨xs, q, r⟩ := h
    exact ⟨xs, (e rfl).trans q, r.mono x⟩
  | fz ds =>
    obtain ⟨xs, q, r⟩ := h
    refine ⟨xs, ?_, r.mono x⟩
    rcases q with ⟨u, q⟩ | q
    · exact .inl ⟨u, f u xs q⟩
    · exact .inr q
  | dic kvs =>
    obtain ⟨xs, q, r⟩ := h
    exact ⟨xs, (e rfl).trans q, Paired.map2 (fun _ _ z => ⟨z.1, z.2.mono x⟩) r⟩
  | ins c fs =>
    obtain ⟨dx, xs, q, r⟩ := h
    exact ⟨dx, xs, (e rfl).trans q, Paired.map2 (fun _ _ z => ⟨z.1, z.2.mono x⟩) r⟩
/-- an own object is tracked, and it is no tuple, and not locked -/
theorem ObR.there (h : ObR K cad as H a o) (w : o.own = true) : ∃ u, H a = some u ∧ (∀ xs, u ≠ .tup xs) ∧ ∀ ob x, u ≠ .frz ob x := by
  cases o with
  | lst ds =>
    obtain ⟨xs, q, _⟩ := h
    exact ⟨_, q, (fun _ z => by cases z), (fun _ _ z => by cases z)⟩
  | fz ds => cases w
  | dic kvs =>
    obtain ⟨xs, q, _⟩ := h
    exact ⟨_, q, (fun _ z => by cases z), (fun _ _ z => by cases z)⟩
  | ins c fs =>
    obtain ⟨dx, xs, q, _⟩ := h
    exact ⟨_, q, (fun _ z => by cases z), (fun _ _ z => by cases z)⟩
theorem sqT_fresh {u : HO} {xs : List V} (hp : H p = none) (h : SqT K H a xs) : SqT K (upd H p u) a xs := by
  rcases h with (h | ⟨ob, h⟩) | h
  · exact .inl (.inl (by rw [upd_ne (ne_of_none h hp)]; exact h))
  · exact .inl (.inr ⟨ob, by rw [upd_ne (ne_of_none h hp)]; exact h⟩)
  · exact .inr h
theorem sqT_write {u w : HO} {xs : List V} (hp : H p = some w) (h1 : ∀ xs, w ≠ .tup xs) (h2 : ∀ ob x, w ≠ .frz ob x) (h : SqT K H a xs) : SqT K (upd H p u) a xs := by
  rcases h with (h | ⟨ob, h⟩) | h
  · exact .inl (.inl (by rw [upd_ne (ne_of h hp (fun z => h1 xs z.symm))]; exact h))
  · exact .inl (.inr ⟨ob, by rw [upd_ne (ne_of h hp (fun z => h2 _ _ z.symm))]; exact h⟩)
  · exact .inr h
theorem Ext.fresh {u : HO} (hp : H p = none) : Ext K as H as (upd H p u) := ⟨⟨[], by simp⟩, fun _ _ h => sqT_fresh hp h⟩
theorem Ext.fresh1 {u : HO} (hp : H p = none) : Ext K as H (as ++ [p]) (upd H p u) := ⟨⟨[p], rfl⟩, fun _ _ h => sqT_fresh hp h⟩
theorem ObR.fresh {u : HO} (x : Ext K as H as' (upd H p u)) (hp : H p = none) (h : ObR K cad as H a o) : ObR K cad as' (upd H p u) a o := by
  refine h.mono x (fun w => ?_) (fun ob xs q => ?_)
  · obtain ⟨v, q, _⟩ := h.there w
    rw [upd_ne (ne_of_none q hp)]
  · rw [upd_ne (ne_of_none q hp)]
    exact q
/-- a new thing that is no object of the store (a tuple, say) -/
theorem Rel.fresh {u : HO} (R : Rel K cad as st H) (hp : H p = none) : Rel K cad as st (upd H p u) :=
  ⟨R.len, R.inj, fun n o a h1 h2 => (R.ob n o a h1 h2).fresh (Ext.fresh hp) hp⟩
/-- a new object -/
theorem Rel.new {u : HO} (R : Rel K cad as st H) (hp : H p = none) (h : ObR K cad (as ++ [p]) (upd H p u) p o) : Rel K cad (as ++ [p]) (st ++ [o]) (upd H p u) := by
  have old : ∀ (i : Nat) (b : Addr), (as ++ [p])[i]? = some b → (as[i]? = some b ∧ i < as.length) ∨ (i = as.length ∧ b = p) := fun i b h => by
    by_cases hi : i < as.length
    · rw [List.getElem?_append_left hi] at h
      exact .inl ⟨h, hi⟩
    · by_cases he : i = as.length
      · subst he
        simp at h
        exact .inr ⟨rfl, h.symm⟩
      · rw [List.getElem?_eq_none (by simp; omega)] at h
        cases h
  have tn : ∀ (i : Nat) (w : Ob), i < as.length → (st ++ [o])[i]? = some w → st[i]? = some w := fun i w hi h => by
    rw [List.getElem?_append_left (by rw [← R.len]; exact hi)] at h
    exact h
  have nop : ∀ (i : Nat) (w : Ob), as[i]? = some p → st[i]? = some w → w.own = true → False := fun i w h1 h2 h3 => by
    obtain ⟨v, q, _⟩ := (R.ob i w p h2 h1).there h3
    rw [hp] at q
    cases q
  refine ⟨by simp [R.len], fun i j b w z h1 h2 h3 h4 h5 h6 => ?_, fun n w b h1 h2 => ?_⟩
  · rcases old i b h1 with ⟨a1, l1⟩ | ⟨rfl, rfl⟩
    · rcases old j b h2 with ⟨a2, l2⟩ | ⟨rfl, rfl⟩
      · exact R.inj i j b w z a1 a2 (tn i w l1 h3) (tn j z l2 h4) h5 h6
      · exact (nop i w a1 (tn i w l1 h3) h5).elim
    · rcases old j b h2 with ⟨a2, l2⟩ | ⟨rfl, _⟩
      · exact (nop j z a2 (tn j z l2 h4) h6).elim
      · rfl
  · rcases old n b h2 with ⟨a2, l2⟩ | ⟨rfl, rfl⟩
    · exact (R.ob n w b (tn n w l2 h1) a2).fresh (Ext.fresh1 hp) hp
    · rw [R.len] at h1
      simp at h1
      subst h1
      exact h
/-- an object changed -/
theorem Rel.write {u : HO} {o' : Ob} (R : Rel K cad as st H) (hn : st[n]? = some o) (ha : as[n]? = some a) (w : o.own = true) (w' : o'.own = true) (h : ObR K cad as (upd H a u) a o') :
    Rel K cad as (st.set n o') (upd H a u) ∧ Ext K as H as (upd H a u) := by
  obtain ⟨v, q, q1, q2⟩ := (R.ob n o a hn ha).there w
  have x : Ext K as H as (upd H a u) := ⟨⟨[], by simp⟩, fun b xs h => sqT_write q q1 q2 h⟩
  have ln : n < st.length := (List.getElem?_eq_some_iff.mp hn).1
  refine ⟨⟨by simp [R.len], fun i j b z t h1 h2 h3 h4 h5 h6 => ?_, fun m z b h1 h2 => ?_⟩, x⟩
  · have g : ∀ (k : Nat) (z : Ob), (st.set n o')[k]? = some z → z.own = true → ∃ z', st[k]? = some z' ∧ z'.own = true := fun k z h1 h2 => by
      by_cases hk : k = n
      · subst hk
        exact ⟨o, hn, w⟩
      · rw [List.getElem?_set_ne (Ne.symm hk)] at h1
        exact ⟨z, h1, h2⟩
    obtain ⟨z', e1, e2⟩ := g i z h3 h5
    obtain ⟨t', e3, e4⟩ := g j t h4 h6
    exact R.inj i j b z' t' h1 h2 e1 e3 e2 e4
  · by_cases hm : m = n
    · subst hm
      rw [List.getElem?_set_self ln] at h1
      cases h1
      rw [ha] at h2
      cases h2
      exact h
    · rw [List.getElem?_set_ne (Ne.symm hm)] at h1
      refine (R.ob m z b h1 h2).mono x (fun wz => ?_) (fun ob xs q' => ?_)
      · have nb : b ≠ a := fun e => by
          subst e
          exact hm (R.inj m n b z o h2 ha h1 hn wz w)
        rw [upd_ne nb]
      · rw [upd_ne (ne_of q' q (fun e => q2 _ _ e.symm))]
        exact q'
theorem Rel.at (R : Rel K cad as st H) (h : st[n]? = some o) : ∃ a, as[n]? = some a := by
  have l : n < as.length := by
    rw [R.len]
    exact (List.getElem?_eq_some_iff.mp h).1
  exact ⟨as[n], List.getElem?_eq_getElem l⟩
theorem Rel.at' (R : Rel K cad as st H) (h : as[n]? = some a) : ∃ o, st[n]? = some o := by
  have l : n < st.length := by
    rw [← R.len]
    exact (List.getElem?_eq_some_iff.mp h).1
  exact ⟨st[n], List.getElem?_eq_getElem l⟩
end

/-! ### what is told: values, lists of values, truths -/
abbrev Rho := List (Option D)
abbrev ME := Rho → Sto → Option (D × Sto)
abbrev MA := Rho → Sto → Option (List D × Sto)
abbrev MT := Rho → Sto → Option (Bool × Sto)
def ER (K : PySem.W.Frag) (as : List Addr) (H : Hp) (ρ : Rho) (σ : L2.St) : Prop := ρ.length = σ.length ∧ ∀ (i : Nat) (d : D), ρ[i]? = some (some d) → ∃ v, σ[i]? = some (some v) ∧ VR K as H d v
def Post (K : PySem.W.Frag) (cad : Cad) (as : List Addr) (H : Hp) (st' : Sto) (d : D) (Q : VK) : Prop :=
  ∀ (as' : List Addr) (H' : Hp) (v : V), Ext K as H as' H' → Rel K cad as' st' H' → VR K as' H' d v → Q v H'
def PostA (K : PySem.W.Frag) (cad : Cad) (as : List Addr) (H : Hp) (st' : Sto) (ds : List D) (Q : List V → Hp → Prop) : Prop :=
  ∀ (as' : List Addr) (H' : Hp) (vs : List V), Ext K as H as' H' → Rel K cad as' st' H' → VRs K as' H' ds vs → Q vs H'
def PostT (K : PySem.W.Frag) (cad : Cad) (as : List Addr) (H : Hp) (st' : Sto) (b : Bool) (Q : Bool → Hp → Prop) : Prop :=
  ∀ (as' : List Addr) (H' : Hp), Ext K as H as' H' → Rel K cad as' st' H' → Q b H'
def tI (K : PySem.W.Frag) (cad : Cad) (f : ME) : TE := fun σ H Q => ∃ as st ρ d st', Rel K cad as st H ∧ ER K as H ρ σ ∧ f ρ st = some (d, st') ∧ Post K cad as H st' d Q
def tIA (K : PySem.W.Frag) (cad : Cad) (f : MA) : TA := fun σ H Q => ∃ as st ρ ds st', Rel K cad as st H ∧ ER K as H ρ σ ∧ f ρ st = some (ds, st') ∧ PostA K cad as H st' ds Q
def tIT (K : PySem.W.Frag) (cad : Cad) (f : MT) : TT := fun σ H Q => ∃ as st ρ b st', Rel K cad as st H ∧ ER K as H ρ σ ∧ f ρ st = some (b, st') ∧ PostT K cad as H st' b Q
def IE (X : Cx) (cad : Cad) (e : Expr) (f : ME) : Prop := PE X e (tI X.K cad f)
def IA (X : Cx) (cad : Cad) (es : List Expr) (f : MA) : Prop := PA X es (tIA X.K cad f)
def IT (X : Cx) (cad : Cad) (e : Expr) (f : MT) : Prop := PT X e (tIT X.K cad f)

section
variable {X : Cx} {e : Expr} {es : List Expr}
theorem pe_weak {t t' : TE} (h : PE X e t) (w : ∀ σ H Q, t' σ H Q → t σ H Q) : PE X e t' := ⟨fun pins s σ H Q I q => h.run pins s σ H Q I (w σ H Q q)⟩
theorem pa_weak {t t' : TA} (h : PA X es t) (w : ∀ σ H Q, t' σ H Q → t σ H Q) : PA X es t' := ⟨fun pos pins s σ H Q I q => h.run pos pins s σ H Q I (w σ H Q q)⟩
theorem pt_weak {t t' : TT} (h : PT X e t) (w : ∀ σ H Q, t' σ H Q → t σ H Q) : PT X e t' := ⟨fun pins s σ H Q I q => h.run pins s σ H Q I (w σ H Q q)⟩
theorem pw_weak {t t' : TT} (h : PW X e t) (w : ∀ σ H Q, t' σ H Q → t σ H Q) : PW X e t' := ⟨fun wh pins s σ H Q I q => h.run wh pins s σ H Q I (w σ H Q q)⟩
end
section
variable {K : PySem.W.Frag} {cad : Cad} {as as' : List Addr} {st : Sto} {H H' : Hp} {ρ : Rho} {σ : L2.St} {d : D} {v : V}
theorem ER.mono (x : Ext K as H as' H') (h : ER K as H ρ σ) : ER K as' H' ρ σ := ⟨h.1, fun i d e => by
  obtain ⟨v, e1, r⟩ := h.2 i d e
  exact ⟨v, e1, r.mono x⟩⟩
theorem ER.set {i : Nat} (h : ER K as H ρ σ) (r : VR K as H d v) : ER K as H (ρ.set i (some d)) (σ.set i (some v)) := by
  refine ⟨by simp [h.1], fun j d' e => ?_⟩
  by_cases hj : j = i
  · subst hj
    by_cases hl : j < ρ.length
    · rw [List.getElem?_set_self hl] at e
      cases e
      exact ⟨v, List.getElem?_set_self (by rw [← h.1]; exact hl), r⟩
    · rw [List.getElem?_eq_none (by simpa using hl)] at e
      cases e
  · rw [List.getElem?_set_ne (Ne.symm hj)] at e
    obtain ⟨v', e1, r'⟩ := h.2 j d' e
    exact ⟨v', by rw [List.getElem?_set_ne (Ne.symm hj)]; exact e1, r'⟩
end
end MP

set_option maxRecDepth 100000
/-! MP 2: expressions. -/
namespace MP
open PySem PySem.Spec PyProof.Rows L2

/-- lists and texts are at most so long -/
def LIM : Nat := 16000000
theorem lim_ok {n : Nat} (h : n ≤ LIM) : n ≤ sizeLine := by
  rw [sizeLine_eq]
  unfold LIM at h
  omega
theorem lim_lt {n : Nat} (h : n < LIM) : n < sizeLine := by
  rw [sizeLine_eq]
  unfold LIM at h
  omega

section
variable {K : PySem.W.Frag} {cad : Cad} {as : List Addr} {st st' : Sto} {H : Hp} {d : D} {Q : VK}
theorem Post.now (P : Post K cad as H st d Q) (R : Rel K cad as st H) {v : V} (r : VR K as H d v) : Q v H := P as H v .refl R r
theorem Post.ext {as1 : List Addr} {H1 : Hp} (P : Post K cad as H st' d Q) (x : Ext K as H as1 H1) : Post K cad as1 H1 st' d Q := fun as' H' v y R r => P as' H' v (x.trans y) R r
theorem PostA.ext {as1 : List Addr} {H1 : Hp} {ds : List D} {Q : List V → Hp → Prop} (P : PostA K cad as H st' ds Q) (x : Ext K as H as1 H1) : PostA K cad as1 H1 st' ds Q := fun as' H' v y R r => P as' H' v (x.trans y) R r
theorem PostT.ext {as1 : List Addr} {H1 : Hp} {b : Bool} {Q : Bool → Hp → Prop} (P : PostT K cad as H st' b Q) (x : Ext K as H as1 H1) : PostT K cad as1 H1 st' b Q := fun as' H' y R => P as' H' (x.trans y) R
/-- a new tuple -/
theorem Post.tup {ds : List D} {xs : List V} {p : Addr} (P : Post K cad as H st (.tup ds) Q) (R : Rel K cad as st H) (r : VRs K as H ds xs) (hp : H p = none) : Q (.ref p) (upd H p (.tup xs)) :=
  P as _ _ (Ext.fresh hp) (R.fresh hp) (.tup (.inl (.inl upd_same)) (r.mono (Ext.fresh hp)))
/-- a new list -/
theorem Post.lst {ds : List D} {xs : List V} {p : Addr} (P : Post K cad as H (st ++ [.lst ds]) (.ref st.length) Q) (R : Rel K cad as st H) (r : VRs K as H ds xs) (hp : H p = none) : Q (.ref p) (upd H p (.lst xs)) :=
  P _ _ _ (Ext.fresh1 hp) (R.new hp ⟨xs, upd_same, r.mono (Ext.fresh1 hp)⟩) (.ref (by rw [← R.len]; simp))
theorem Post.dic {p : Addr} (P : Post K cad as H (st ++ [.dic []]) (.ref st.length) Q) (R : Rel K cad as st H) (hp : H p = none) : Q (.ref p) (upd H p (.dK [])) :=
  P _ _ _ (Ext.fresh1 hp) (R.new hp ⟨[], upd_same, .nil⟩) (.ref (by rw [← R.len]; simp))
/-- a list of the store, read -/
def rdL (st : Sto) (n : Nat) : Option (List D) := match st[n]? with
  | some (.lst ds) => some ds
  | some (.fz ds) => some ds
  | _ => none
theorem Rel.rdL {n : Nat} {a : Addr} {ds : List D} (R : Rel K cad as st H) (h : rdL st n = some ds) (ha : as[n]? = some a) : ∃ xs, SqL K H a xs ∧ VRs K as H ds xs := by
  unfold MP.rdL at h
  split at h
  · rename_i es e
    cases h
    obtain ⟨xs, q, r⟩ := R.ob n _ a e ha
    exact ⟨xs, .of q, r⟩
  · rename_i es e
    cases h
    obtain ⟨xs, q, r⟩ := R.ob n _ a e ha
    rcases q with ⟨o, q⟩ | q
    · exact ⟨xs, .inl (.inr ⟨o, q⟩), r⟩
    · exact ⟨xs, q H, r⟩
  · cases h
/-- a list of ours -/
def myL (st : Sto) (n : Nat) : Option (List D) := match st[n]? with
  | some (.lst ds) => some ds
  | _ => none
theorem myL_at {n : Nat} {ds : List D} (h : myL st n = some ds) : st[n]? = some (.lst ds) := by
  unfold MP.myL at h
  split at h
  · rename_i es e
    cases h
    exact e
  · cases h
theorem Rel.myL {n : Nat} {a : Addr} {ds : List D} (R : Rel K cad as st H) (h : myL st n = some ds) (ha : as[n]? = some a) : ∃ xs, H a = some (.lst xs) ∧ VRs K as H ds xs := R.ob n _ a (myL_at h) ha
end

/-! ### names, constants -/
def eVar (i : Nat) : ME := fun ρ st => match ρ[i]? with
  | some (some d) => some (d, st)
  | _ => none
def eC (d : D) : ME := fun _ st => some (d, st)
section
variable {X : Cx} {cad : Cad} {e a b c : Expr} {f g h : ME} {pos : Pos}
theorem ie_var {i : Nat} (h : PE X e (tVar i)) : IE X cad e (eVar i) := by
  refine pe_weak h fun σ H Q => ?_
  rintro ⟨as, st, ρ, d, st', R, E, q, P⟩
  unfold eVar at q
  split at q
  · rename_i d' e'
    cases q
    obtain ⟨v, e1, r⟩ := E.2 i _ e'
    exact ⟨v, e1, P.now R r⟩
  · cases q
theorem ie_c {d : D} {v : V} (h : PE X e (tC v)) (r : ∀ as H, VR X.K as H d v) : IE X cad e (eC d) := by
  refine pe_weak h fun σ H Q => ?_
  rintro ⟨as, st, ρ, d', st', R, E, q, P⟩
  cases q
  exact P.now R (r as H)
theorem ie_int {i : Int} {j} : IE X cad (.Constant (.int i) j pos) (eC (.int i)) := ie_c pe_int fun _ _ => .int i
theorem ie_bl {i : Bool} {j} : IE X cad (.Constant (.bool i) j pos) (eC (.bl i)) := ie_c pe_bl fun _ _ => .bl i
theorem ie_non {j} : IE X cad (.Constant .none j pos) (eC .non) := ie_c pe_non fun _ _ => .non
theorem ie_str {x : Str} {l : List Nat} {j} (hx : x.cps.toList = l ∧ okS l = true) : IE X cad (.Constant (.str x) j pos) (eC (.str l)) := ie_c pe_str fun as H => by
  obtain ⟨hx, ho⟩ := hx
  subst hx
  have := VR.str (K := X.K) (as := as) (H := H) ho
  rw [mkS_of] at this
  exact this
/-- a constant of the module -/
theorem ie_gint {x : Str} {i : Int} {t : Tok} (hg : Gl X x) (hm : X.mg x = some (.int i t)) (hd : (x == ("__debug__" : Str)) = false := by decide) : IE X cad (.Name x pos) (eC (.int i)) := ie_c (pe_glob (v := .int i) hg hm ⟨t, rfl⟩ hd) fun _ _ => .int i
theorem ie_gstr {x z : Str} {l : List Nat} {t : Tok} (hg : Gl X x) (hm : X.mg x = some (.str z t)) (hx : z.cps.toList = l ∧ okS l = true) (hd : (x == ("__debug__" : Str)) = false := by decide) : IE X cad (.Name x pos) (eC (.str l)) := ie_c (pe_glob (v := .str z) hg hm ⟨t, rfl⟩ hd) fun as H => by
  obtain ⟨hx, ho⟩ := hx
  subst hx
  have := VR.str (K := X.K) (as := as) (H := H) ho
  rw [mkS_of] at this
  exact this
end

/-! ### two-place operations -/
abbrev O2 := D → D → Sto → Option (D × Sto)
def OpD (K : PySem.W.Frag) (cad : Cad) (r : R2) (o : O2) : Prop :=
  ∀ (as : List Addr) (st : Sto) (H : Hp) (x y : D) (v w : V) (d : D) (st' : Sto) (Q : VK), Rel K cad as st H → VR K as H x v → VR K as H y w → o x y st = some (d, st') → Post K cad as H st' d Q → r v w H Q
def eBin (o : O2) (f g : ME) : ME := fun ρ st => (f ρ st).bind fun p => (g ρ p.2).bind fun q => o p.1 q.1 q.2
theorem bind_some {α β : Type} {o : Option α} {k : α → Option β} {b : β} (h : o.bind k = some b) : ∃ a, o = some a ∧ k a = some b := by
  cases o with
  | none => cases h
  | some a => exact ⟨a, rfl, h⟩
section
variable {X : Cx} {cad : Cad} {e a b c : Expr} {f g h : ME} {pos : Pos}
theorem tI_run {K : PySem.W.Frag} {cad : Cad} {as : List Addr} {st st' : Sto} {H : Hp} {ρ : Rho} {σ : L2.St} {f : ME} {d : D} {Q : VK} (R : Rel K cad as st H) (E : ER K as H ρ σ) (e : f ρ st = some (d, st'))
    (P : ∀ as' H' v, Ext K as H as' H' → Rel K cad as' st' H' → ER K as' H' ρ σ → VR K as' H' d v → Q v H') : tI K cad f σ H Q :=
  ⟨as, st, ρ, d, st', R, E, e, fun as' H' v x R' r => P as' H' v x R' (E.mono x) r⟩
theorem tI_op {r : R2} {o : O2} {K : PySem.W.Frag} (hr : OpD K cad r o) {σ : L2.St} {H : Hp} {Q : VK} (hw : tI K cad (eBin o f g) σ H Q) : tOp r (tI K cad f) (tI K cad g) σ H Q := by
  obtain ⟨as, st, ρ, d, st', R, E, q, P⟩ := hw
  obtain ⟨⟨x, st1⟩, e1, q⟩ := bind_some q
  obtain ⟨⟨y, st2⟩, e2, q⟩ := bind_some q
  exact tI_run R E e1 fun as1 H1 v x1 R1 E1 r1 => tI_run R1 E1 e2 fun as2 H2 w x2 R2 E2 r2 => hr as2 st2 H2 x y v w d st' Q R2 (r1.mono x2) r2 q (P.ext (x1.trans x2))
theorem ie_bin {op : Operator} {r : R2} {o : O2} (ho : OpR X (binaryOp op) r) (hd : OpD X.K cad r o) (ha : IE X cad a f) (hb : IE X cad b g) : IE X cad (.BinOp a op b pos) (eBin o f g) :=
  pe_weak (pe_op ho ha hb) fun _ _ _ => tI_op hd
theorem OpD.or1 {K : PySem.W.Frag} {r r' : R2} {o : O2} (h : OpD K cad r o) : OpD K cad (fun x y H Q => r x y H Q ∨ r' x y H Q) o := fun as st H x y v w d st' Q R r1 r2 e P => .inl (h as st H x y v w d st' Q R r1 r2 e P)
theorem OpD.or2 {K : PySem.W.Frag} {r r' : R2} {o : O2} (h : OpD K cad r' o) : OpD K cad (fun x y H Q => r x y H Q ∨ r' x y H Q) o := fun as st H x y v w d st' Q R r1 r2 e P => .inr (h as st H x y v w d st' Q R r1 r2 e P)

/-! ### + -/
def opAdd : O2 := fun x y st => match x, y with
  | .int i, .int j => some (.int (i + j), st)
  | .int i, .bl k => some (.int (i + b2i k), st)
  | .str l, .str m => if l.length + m.length ≤ LIM then some (.str (l ++ m), st) else none
  | .tup l, .tup m => if l ≠ [] ∧ l.length + m.length ≤ LIM then some (.tup (l ++ m), st) else none
  | .ref k, .ref n => match myL st k, myL st n with
    | some l, some m => if l.length + m.length ≤ LIM then some (.ref st.length, st ++ [.lst (l ++ m)]) else none
    | _, _ => none
  | _, _ => none
def rAddA (K : PySem.W.Frag) : R2 := fun x y H Q => (∃ i j, x = .int i ∧ y = .int j ∧ Q (.int (i + j)) H) ∨ (∃ i k, x = .int i ∧ y = .bl k ∧ Q (.int (i + b2i k)) H) ∨
  (∃ i j, x = .str i ∧ y = .str j ∧ i.length + j.length ≤ sizeLine ∧ Q (.str (i ++ j)) H) ∨ rCatT K x y H Q ∨ rCat x y H Q
theorem op_addA : OpR X (binaryOp .Add) (rAddA X.K) := op_add.or (op_add_ib.or (op_add_str.or (op_catT.or op_cat)))
theorem mkS_app (l m : List Nat) : mkS l ++ mkS m = mkS (l ++ m) := by
  rw [← mkS_of (mkS l ++ mkS m)]
  congr 1
  exact TL.tl_append _ _
theorem od_add {K : PySem.W.Frag} : OpD K cad (rAddA K) opAdd := by
  intro as st H x y v w d st' Q R r1 r2 e P
  cases r1 with
  | non => cases r2 <;> cases e
  | bl b => cases r2 <;> cases e
  | int i =>
    cases r2 with
    | int j => cases e; exact .inl ⟨i, j, rfl, rfl, P.now R (.int _)⟩
    | bl k => cases e; exact .inr (.inl ⟨i, k, rfl, rfl, P.now R (.int _)⟩)
    | _ => cases e
  | @str l hl1 =>
    cases r2 with
    | @str m hl2 =>
      simp only [opAdd] at e
      split at e
      · cases e
        rename_i hl
        refine .inr (.inr (.inl ⟨_, _, rfl, rfl, ?_, ?_⟩))
        · rw [mkS_len, mkS_len]
          exact lim_ok hl
        · rw [mkS_app]
          exact P.now R (.str (okS_app hl1 hl2))
      · cases e
    | _ => cases e
  | @tup a xs ds hs rs =>
    cases r2 with
    | @tup b ys es hs2 rs2 =>
      simp only [opAdd] at e
      split at e
      · cases e
        rename_i hl
        refine .inr (.inr (.inr (.inl ⟨a, b, xs, ys, rfl, rfl, hs, hs2, ?_, ?_, fun hy => ?_, fun _ p hp => ?_⟩)))
        · intro z
          subst z
          cases rs
          exact hl.1 rfl
        · rw [← rs.length, ← rs2.length]
          exact lim_ok hl.2
        · subst hy
          cases rs2
          rw [List.append_nil] at P
          exact P.now R (.tup hs rs)
        · exact P.tup R (rs.append rs2) hp
      · cases e
    | _ => cases e
  | @ref n a ha =>
    cases r2 with
    | @ref m b hb =>
      simp only [opAdd] at e
      split at e
      · rename_i l l' e1 e2
        split at e
        · cases e
          rename_i hl
          obtain ⟨xs, q1, r1⟩ := R.myL e1 ha
          obtain ⟨ys, q2, r2⟩ := R.myL e2 hb
          refine .inr (.inr (.inr (.inr ⟨a, b, xs, ys, rfl, rfl, q1, q2, ?_, fun p hp => ?_⟩)))
          · rw [← r1.length, ← r2.length]
            exact lim_ok hl
          · exact P.lst R (r1.append r2) hp
        · cases e
      · cases e
    | _ => cases e
theorem ie_add (ha : IE X cad a f) (hb : IE X cad b g) : IE X cad (.BinOp a .Add b pos) (eBin opAdd f g) := ie_bin op_addA od_add ha hb

/-! ### ints -/
def opI (C : Int → Int → Bool) (G : Int → Int → Int) : O2 := fun x y st => match x, y with
  | .int i, .int j => if C i j then some (.int (G i j), st) else none
  | _, _ => none
theorem od_I {K : PySem.W.Frag} {C : Int → Int → Bool} {C' : Int → Int → Prop} {G : Int → Int → Int} (h : ∀ i j, C i j = true → C' i j) : OpD K cad (rI C' fun i j => .int (G i j)) (opI C G) := by
  intro as st H x y v w d st' Q R r1 r2 e P
  cases r1 with
  | int i =>
    cases r2 with
    | int j =>
      simp only [opI] at e
      split at e
      · cases e
        rename_i hc
        exact ⟨i, j, rfl, rfl, h i j hc, P.now R (.int _)⟩
      · cases e
    | _ => cases e
  | _ => cases r2 <;> cases e
theorem rI0_I {f : Value → Value → Sem Value} {G : Int → Int → V} (h : OpR X f (rI0 G)) : OpR X f (rI (fun _ _ => True) G) := fun pins s σ H x y v u Q I rx ry ⟨i, j, e1, e2, _, q⟩ => h pins s σ H x y v u Q I rx ry ⟨i, j, e1, e2, q⟩
def cT : Int → Int → Bool := fun _ _ => true
def opSub : O2 := opI cT fun i j => i - j
theorem ie_sub (ha : IE X cad a f) (hb : IE X cad b g) : IE X cad (.BinOp a .Sub b pos) (eBin opSub f g) := ie_bin (rI0_I op_sub) (od_I fun _ _ _ => True.intro) ha hb
/-- a divisor that isn't 0, and not too great -/
def cDiv (_ j : Int) : Bool := decide (j ≠ 0 ∧ j.natAbs.log2 < 9000)
def gDiv (i j : Int) : Int := if 0 < j then i / j else i.fdiv j
def gMod (i j : Int) : Int := if 0 < j then i % j else i.fmod j
theorem gDiv_eq (i j : Int) : gDiv i j = i.fdiv j := by
  unfold gDiv
  split
  · rw [Int.fdiv_eq_ediv_of_nonneg i (by omega)]
  · rfl
theorem gMod_eq (i j : Int) : gMod i j = i.fmod j := by
  unfold gMod
  split
  · rw [Int.fmod_eq_emod_of_nonneg i (by omega)]
  · rfl
theorem op_divA : OpR X (binaryOp .FloorDiv) (rI (fun i j => cDiv i j = true) fun i j => .int (gDiv i j)) := L2.opI fun i j _ _ _ _ _ hc q => by
  have h1 := of_decide_eq_true hc
  rw [gDiv_eq] at q
  exact floordiv_int h1.1 q (.inl (PyProof.noPylong_of_log2 h1.2))
def opDiv : O2 := opI cDiv gDiv
theorem ie_div (ha : IE X cad a f) (hb : IE X cad b g) : IE X cad (.BinOp a .FloorDiv b pos) (eBin opDiv f g) := ie_bin op_divA (od_I fun _ _ h => h) ha hb
def cMod (_ j : Int) : Bool := decide (j ≠ 0)
theorem op_modA : OpR X (binaryOp .Mod) (rI (fun i j => cMod i j = true) fun i j => .int (gMod i j)) := L2.opI fun i j _ _ _ _ _ hc q => by
  have h1 : j ≠ 0 := of_decide_eq_true hc
  rw [gMod_eq] at q
  exact mod_int' h1 q
def opMod : O2 := opI cMod gMod
theorem ie_mod (ha : IE X cad a f) (hb : IE X cad b g) : IE X cad (.BinOp a .Mod b pos) (eBin opMod f g) := ie_bin op_modA (od_I fun _ _ h => h) ha hb
def cPow (i j : Int) : Bool := decide (0 ≤ j ∧ j ≤ 1000000 ∧ i.natAbs < 2 ^ 64)
def opPow : O2 := opI cPow fun i j => i ^ j.toNat
theorem ie_pow (ha : IE X cad a f) (hb : IE X cad b g) : IE X cad (.BinOp a .Pow b pos) (eBin opPow f g) := ie_bin op_pow (od_I fun _ _ h => by
  have z := of_decide_eq_true h
  exact z) ha hb
def opAnd : O2 := opI cT Builtin.bitAnd
theorem ie_and (ha : IE X cad a f) (hb : IE X cad b g) : IE X cad (.BinOp a .BitAnd b pos) (eBin opAnd f g) := ie_bin (rI0_I op_and) (od_I fun _ _ _ => True.intro) ha hb
def opOr : O2 := opI cT Builtin.bitOr
theorem ie_or (ha : IE X cad a f) (hb : IE X cad b g) : IE X cad (.BinOp a .BitOr b pos) (eBin opOr f g) := ie_bin (rI0_I op_or) (od_I fun _ _ _ => True.intro) ha hb
end
end MP

set_option maxRecDepth 100000
/-! MP 3: products, comparisons, truth, tests. -/
namespace MP
open PySem PySem.Spec PyProof.Rows L2

section
variable {X : Cx} {cad : Cad} {e a b c : Expr} {f g h : ME} {pos : Pos}
/-! ### * -/
def cMul (i j : Int) : Bool := decide (i.natAbs < 2 ^ 64 ∨ j.natAbs < 2 ^ 64 ∨ i.natAbs.log2 + j.natAbs.log2 < 1000000)
theorem cMul_ok {i j : Int} (h : cMul i j = true) : IntMulOk i j := by
  have z := of_decide_eq_true h
  rcases z with z | z | z
  · exact CMul.ok (.inl (by omega))
  · exact CMul.ok (.inr (by omega))
  · exact CMulW.ok z
/-- a text again and again -/
def repS (l : List Nat) (n : Int) : List Nat := (List.replicate n.toNat l).flatten
theorem foldl_app (l : List Nat) : ∀ (k : Nat) (acc : Array Nat), ((List.replicate k l.toArray).foldl (· ++ ·) acc) = (acc.toList ++ (List.replicate k l).flatten).toArray
  | 0, acc => by simp
  | k + 1, acc => by
    rw [List.replicate_succ, List.foldl_cons, foldl_app l k, List.replicate_succ, List.flatten_cons]
    simp
theorem mul_rep (l : List Nat) (n : Int) : Txt.mul (mkS l) n = mkS (repS l n) := by
  unfold Txt.mul repS
  by_cases h : n < 1
  · rw [if_pos h]
    have : n.toNat = 0 := by omega
    rw [this]
    rfl
  · rw [if_neg h]
    by_cases h1 : (n == 1 || (mkS l).length == 0) = true
    · rw [if_pos h1]
      rw [Bool.or_eq_true] at h1
      rcases h1 with h1 | h1
      · have : n = 1 := by simpa using h1
        subst this
        simp [List.replicate]
      · rw [mkS_len] at h1
        have hl : l = [] := by simpa using h1
        subst hl
        congr 1
        simp
    · rw [if_neg h1]
      show (⟨(List.replicate n.toNat l.toArray).foldl (· ++ ·) #[]⟩ : Str) = _
      rw [foldl_app]
      rfl
def opMul : O2 := fun x y st => match x, y with
  | .int i, .int j => if cMul i j then some (.int (i * j), st) else none
  | .str l, .int n => if -(LIM : Int) ≤ n ∧ n ≤ (LIM : Nat) ∧ l.length * n.toNat ≤ LIM then some (.str (repS l n), st) else none
  | .ref k, .int n => match myL st k with
    | some l => if -(LIM : Int) ≤ n ∧ n ≤ (LIM : Nat) ∧ l.length * n.toNat ≤ LIM then some (.ref st.length, st ++ [.lst (List.replicate n.toNat l).flatten]) else none
    | none => none
  | _, _ => none
def rMulS : R2 := fun x y H Q => ∃ (l : List Nat) (n : Int), x = .str (mkS l) ∧ y = .int n ∧ n ≤ (LIM : Nat) ∧ l.length * n.toNat ≤ LIM ∧ -(LIM : Int) ≤ n ∧ Q (.str (mkS (repS l n))) H
theorem op_mulS : OpR X (binaryOp .Mult) rMulS := by
  intro pins s σ H x y v u Q I rx ry h
  obtain ⟨l, n, rfl, rfl, h1, h2, h3, q⟩ := h
  obtain ⟨t, rfl⟩ := rx
  obtain ⟨t', rfl⟩ := ry
  have hL : LIM = 16000000 := rfl
  rw [hL] at h1 h2 h3
  refine PySem.SB.mul ⟨?_, fun h4 h5 => ?_, fun h4 h5 => ?_⟩ (fun t2 k => ?_)
  · rw [Bool.or_eq_false_iff]
    exact ⟨decide_eq_false (by omega), decide_eq_false (by omega)⟩
  · rw [mkS_len]
    have hp : 0 < n := by omega
    intro z
    have e1 : (2 ^ 63 - 1 : Int) / n < (l.length : Int) := z
    have e2 : (l.length : Int) * n ≤ 16000000 := by
      have : n = (n.toNat : Int) := by omega
      rw [this]
      have h2' : ((l.length * n.toNat : Nat) : Int) ≤ 16000000 := by omega
      simpa using h2'
    have e3 : (2 ^ 63 - 1 : Int) < (l.length : Int) * n := (Int.ediv_lt_iff_lt_mul hp).mp e1
    omega
  · rw [mkS_len]
    unfold Builtin.Str.tooLong
    exact decide_eq_false (by
      have := lim_ok (show l.length * n.toNat ≤ LIM from h2)
      omega)
  · rw [mul_rep]
    exact ⟨.str _, H, I.tok _, ⟨_, rfl⟩, q⟩
theorem okS_rep {l : List Nat} (h : okS l = true) (n : Int) : okS (repS l n) = true := okS_sub h fun c hc => by
  unfold repS at hc
  obtain ⟨m, h1, h2⟩ := List.mem_flatten.mp hc
  rw [List.eq_of_mem_replicate h1] at h2
  exact h2
def rMulA (K : PySem.W.Frag) : R2 := fun x y H Q => (∃ i j, x = .int i ∧ y = .int j ∧ cMul i j = true ∧ Q (.int (i * j)) H) ∨ rMulS x y H Q ∨ rRep x y H Q
theorem op_mulA : OpR X (binaryOp .Mult) (rMulA X.K) := (L2.opI fun _ _ _ _ _ _ _ hc q => mul_int q (cMul_ok hc)).or (op_mulS.or op_rep)
theorem VRs.rep {K : PySem.W.Frag} {as : List Addr} {H : Hp} {ds : List D} {vs : List V} (h : VRs K as H ds vs) : ∀ k : Nat, VRs K as H (List.replicate k ds).flatten (List.replicate k vs).flatten
  | 0 => .nil
  | k + 1 => by
    rw [List.replicate_succ, List.replicate_succ, List.flatten_cons, List.flatten_cons]
    exact h.append (h.rep k)
theorem od_mul {K : PySem.W.Frag} : OpD K cad (rMulA K) opMul := by
  intro as st H x y v w d st' Q R r1 r2 e P
  cases r1 with
  | int i =>
    cases r2 with
    | int j =>
      simp only [opMul] at e
      split at e
      · cases e
        rename_i hc
        exact .inl ⟨i, j, rfl, rfl, hc, P.now R (.int _)⟩
      · cases e
    | _ => cases e
  | @str l hl =>
    cases r2 with
    | int j =>
      simp only [opMul] at e
      split at e
      · cases e
        rename_i hc
        exact .inr (.inl ⟨l, j, rfl, rfl, hc.2.1, hc.2.2, hc.1, P.now R (.str (okS_rep hl j))⟩)
      · cases e
    | _ => cases e
  | @ref n a ha =>
    cases r2 with
    | int j =>
      simp only [opMul] at e
      split at e
      · rename_i l e1
        split at e
        · cases e
          rename_i hc
          obtain ⟨xs, q1, r1⟩ := R.myL e1 ha
          have hL : LIM = 16000000 := rfl
          refine .inr (.inr ⟨a, j, xs, rfl, rfl, q1, ?_, ?_, ?_, fun p hp => P.lst R (r1.rep _) hp⟩)
          · have := hc.1
            omega
          · have := hc.2.1
            omega
          · rw [← r1.length]
            exact lim_ok hc.2.2
        · cases e
      · cases e
    | _ => cases e
  | _ => cases r2 <;> cases e
theorem ie_mul (ha : IE X cad a f) (hb : IE X cad b g) : IE X cad (.BinOp a .Mult b pos) (eBin opMul f g) := ie_bin op_mulA od_mul ha hb

/-! ### - -/
def U1 := D → Sto → Option (D × Sto)
def eUn (o : D → Sto → Option (D × Sto)) (f : ME) : ME := fun ρ st => (f ρ st).bind fun p => o p.1 p.2
def opNeg : D → Sto → Option (D × Sto) := fun x st => match x with
  | .int i => some (.int (-i), st)
  | _ => none
theorem ie_neg (ha : IE X cad a f) : IE X cad (.UnaryOp .USub a pos) (eUn opNeg f) := by
  refine pe_weak (pe_un un_neg ha) fun σ H Q => ?_
  rintro ⟨as, st, ρ, d, st', R, E, q, P⟩
  obtain ⟨⟨x, st1⟩, e1, q⟩ := bind_some q
  refine tI_run R E e1 fun as1 H1 v x1 R1 E1 r1 => ?_
  cases r1 with
  | int i =>
    cases q
    exact ⟨i, rfl, (P.ext x1).now R1 (.int _)⟩
  | _ => cases q

/-! ### comparisons by order -/
def opOrd (ki : Int → Int → Bool) (ks : List Nat → List Nat → Bool) : O2 := fun x y st => match x, y with
  | .int i, .int j => some (.bl (ki i j), st)
  | .str l, .str m => some (.bl (ks l m), st)
  | _, _ => none
def rOrd (ki : Int → Int → Bool) (ks : List Nat → List Nat → Bool) : R2 := fun x y H Q => (∃ i j, x = .int i ∧ y = .int j ∧ Q (.bl (ki i j)) H) ∨ ∃ i j, x = .str i ∧ y = .str j ∧ Q (.bl (ks i.cps.toList j.cps.toList)) H
theorem od_ord {K : PySem.W.Frag} {ki : Int → Int → Bool} {ks : List Nat → List Nat → Bool} : OpD K cad (rOrd ki ks) (opOrd ki ks) := by
  intro as st H x y v w d st' Q R r1 r2 e P
  cases r1 with
  | int i =>
    cases r2 with
    | int j =>
      cases e
      exact .inl ⟨i, j, rfl, rfl, P.now R (.bl _)⟩
    | _ => cases e
  | str _ =>
    cases r2 with
    | str _ =>
      cases e
      exact .inr ⟨_, _, rfl, rfl, P.now R (.bl _)⟩
    | _ => cases e
  | _ => cases r2 <;> cases e
theorem opS {f : Value → Value → Sem Value} {ks : List Nat → List Nat → Bool}
    (h : ∀ {prog : Program} {w : World} {A : Around} {E : Value → Shared → Prop} {s : Shared} {x y : Str} {t u : Tok} {Q : Value → Shared → Prop}, Q (.bool (ks x.cps.toList y.cps.toList)) s → wpAny (model prog w) A (f (.str x t) (.str y u)) Q E s) :
    OpR X f (fun x y H Q => ∃ i j, x = .str i ∧ y = .str j ∧ Q (.bl (ks i.cps.toList j.cps.toList)) H) := by
  intro pins s σ H x y v u Q I rx ry z
  obtain ⟨i, j, rfl, rfl, q⟩ := z
  obtain ⟨t, rfl⟩ := rx
  obtain ⟨t', rfl⟩ := ry
  exact h ⟨.bl _, H, I, rfl, q⟩
def eCmp (o : O2) (f g : ME) : ME := eBin o f g
def kLt : O2 := opOrd (fun i j => decide (i < j)) fun l m => decide (l < m)
def kLe : O2 := opOrd (fun i j => decide (i ≤ j)) fun l m => !decide (m < l)
def kGt : O2 := opOrd (fun i j => decide (j < i)) fun l m => decide (m < l)
def kGe : O2 := opOrd (fun i j => decide (j ≤ i)) fun l m => !decide (l < m)
theorem op_kLt : OpR X (compareOp .Lt) (rOrd (fun i j => decide (i < j)) fun l m => decide (l < m)) := OpR.or op_lt (opS (ks := fun l m => decide (l < m)) fun h => PyProof.Rows.lt_str h)
theorem op_kLe : OpR X (compareOp .LtE) (rOrd (fun i j => decide (i ≤ j)) fun l m => !decide (m < l)) := OpR.or op_le (opS (ks := fun l m => !decide (m < l)) fun h => PySem.P.le_str h)
theorem op_kGt : OpR X (compareOp .Gt) (rOrd (fun i j => decide (j < i)) fun l m => decide (m < l)) := OpR.or op_gt (opS (ks := fun l m => decide (m < l)) fun h => PySem.P.gt_str h)
theorem op_kGe : OpR X (compareOp .GtE) (rOrd (fun i j => decide (j ≤ i)) fun l m => !decide (l < m)) := OpR.or op_ge (opS (ks := fun l m => !decide (l < m)) fun h => PySem.P.ge_str h)
/-- a comparison by its rule -/
structure Cmp (X : Cx) (cad : Cad) (op : CmpOp) (o : O2) : Prop where
  has : ∃ r, OpR X (compareOp op) r ∧ OpD X.K cad r o
theorem cm_lt : Cmp X cad .Lt kLt := ⟨⟨_, op_kLt, od_ord⟩⟩
theorem cm_le : Cmp X cad .LtE kLe := ⟨⟨_, op_kLe, od_ord⟩⟩
theorem cm_gt : Cmp X cad .Gt kGt := ⟨⟨_, op_kGt, od_ord⟩⟩
theorem cm_ge : Cmp X cad .GtE kGe := ⟨⟨_, op_kGe, od_ord⟩⟩
theorem ie_cmp {op : CmpOp} {o : O2} (h : Cmp X cad op o) (ha : IE X cad a f) (hb : IE X cad b g) (hm : behindInMarks op b = false) : IE X cad (.Compare a [op] [b] pos) (eBin o f g) := by
  obtain ⟨r, h1, h2⟩ := h.has
  exact pe_weak (pe_cmpR h1 ha hb hm) fun _ _ _ => tI_op h2
end
end MP

set_option maxRecDepth 100000
/-! MP 4: == and in, truth, tests, and, or, not, conditional expressions. -/
namespace MP
open PySem PySem.Spec PyProof.Rows L2

/-! ### == -/
def mapO {α β : Type} (f : α → Option β) : List α → Option (List β)
  | [] => some []
  | a :: r => (f a).bind fun b => (mapO f r).map fun s => b :: s
/-- data as the library's equality takes it: at most so deep -/
def toP (st : Sto) : Nat → D → Option PyData
  | 0, _ => none
  | n + 1, d => match d with
    | .non => some .none
    | .bl b => some (.bool b)
    | .int i => some (.int i)
    | .str l => some (.str (mkS l))
    | .tup ds => (mapO (toP st n) ds).map .tuple
    | .ref k => match rdL st k with
      | some ds => (mapO (toP st n) ds).map .list
      | none => none
theorem map_some {α β : Type} {o : Option α} {k : α → β} {b : β} (h : o.map k = some b) : ∃ a, o = some a ∧ k a = b := by
  cases o with
  | none => cases h
  | some a => exact ⟨a, rfl, Option.some.inj h⟩
section
variable {K : PySem.W.Frag} {cad : Cad} {as : List Addr} {st : Sto} {H : Hp}
theorem toP_all {n : Nat} (ih : ∀ (d : D) (v : V) (p : PyData), VR K as H d v → toP st n d = some p → Dp K H v p ∧ p.canLay0 = true ∧ p.depth ≤ n) :
    ∀ {ds : List D} {vs : List V} {ps : List PyData}, VRs K as H ds vs → mapO (toP st n) ds = some ps → DpAll K H vs ps ∧ PyData.canLayAll0 ps = true ∧ PyData.depthAll ps ≤ n
  | _, _, _, .nil, e => by
    cases e
    exact ⟨.nil, rfl, Nat.zero_le _⟩
  | d :: ds, v :: vs, _, .cons r t, e => by
    obtain ⟨p, e1, e2⟩ := bind_some e
    obtain ⟨q, e3, rfl⟩ := map_some e2
    obtain ⟨h1, h2, h3⟩ := ih d v p r e1
    obtain ⟨h4, h5, h6⟩ := toP_all ih t e3
    refine ⟨.cons h1 h4, ?_, ?_⟩
    · show (PyData.canLay0 p && PyData.canLayAll0 q) = true
      rw [h2, h5]
      rfl
    · show max (PyData.depth p) (PyData.depthAll q) ≤ n
      omega
theorem toP_ok (R : Rel K cad as st H) : ∀ (n : Nat) (d : D) (v : V) (p : PyData), VR K as H d v → toP st n d = some p → Dp K H v p ∧ p.canLay0 = true ∧ p.depth ≤ n
  | 0, _, _, _, _, e => by cases e
  | n + 1, d, v, p, r, e => by
    have ih := toP_ok R n
    cases r with
    | non => cases e; exact ⟨.non, rfl, Nat.zero_le _⟩
    | bl b => cases e; exact ⟨.bl b, rfl, Nat.zero_le _⟩
    | int i => cases e; exact ⟨.int i, rfl, Nat.zero_le _⟩
    | @str l hl =>
      cases e
      refine ⟨.str _, ?_, Nat.zero_le _⟩
      show PyData.strOk (mkS l) = true
      unfold PyData.strOk mkS
      rw [List.all_toArray]
      exact hl
    | tup hs rs =>
      obtain ⟨q, e1, rfl⟩ := map_some e
      obtain ⟨h1, h2, h3⟩ := toP_all ih rs e1
      exact ⟨.tup hs h1, h2, Nat.succ_le_succ h3⟩
    | @ref k a ha =>
      simp only [toP] at e
      split at e
      · rename_i ds e0
        obtain ⟨q, e1, rfl⟩ := map_some e
        obtain ⟨xs, hs, rs⟩ := R.rdL e0 ha
        obtain ⟨h1, h2, h3⟩ := toP_all ih rs e1
        exact ⟨.lst hs h1, h2, Nat.succ_le_succ h3⟩
      · cases e
end
/-- how deep data are compared -/
def DEEP : Nat := 50
def eqO (st : Sto) (x y : D) : Option Bool := match toP st DEEP x, toP st DEEP y with
  | some p, some q => some (PyData.eqv p q)
  | _, _ => none
def kEq : O2 := fun x y st => (eqO st x y).map fun b => (.bl b, st)
def kNe : O2 := fun x y st => (eqO st x y).map fun b => (.bl (!b), st)
theorem eqO_some {st : Sto} {x y : D} {b : Bool} (h : eqO st x y = some b) : ∃ p q, toP st DEEP x = some p ∧ toP st DEEP y = some q ∧ b = PyData.eqv p q := by
  unfold eqO at h
  split at h
  · rename_i p q e1 e2
    cases h
    exact ⟨p, q, e1, e2, rfl⟩
  · cases h
theorem shaped_of {p : PyData} (h1 : p.canLay0 = true) (h2 : p.depth ≤ DEEP) : SeqAt.shaped p = true := by
  unfold SeqAt.shaped
  rw [h1, decide_eq_true (Nat.le_trans h2 (by decide : DEEP ≤ 64))]
  rfl
section
variable {X : Cx} {cad : Cad} {e a b c : Expr} {f g h : ME} {pos : Pos}
theorem od_eq {K : PySem.W.Frag} : OpD K cad (rEqD K) kEq := by
  intro as st H x y v w d st' Q R r1 r2 e P
  obtain ⟨b, e1, e2⟩ := map_some e
  cases e2
  obtain ⟨p, q, e3, e4, rfl⟩ := eqO_some e1
  obtain ⟨h1, h2, h3⟩ := toP_ok R _ _ _ _ r1 e3
  obtain ⟨h4, h5, h6⟩ := toP_ok R _ _ _ _ r2 e4
  exact ⟨p, q, h1, h4, shaped_of h2 h3, shaped_of h5 h6, P.now R (.bl _)⟩
theorem od_ne {K : PySem.W.Frag} : OpD K cad (rNeD K) kNe := by
  intro as st H x y v w d st' Q R r1 r2 e P
  obtain ⟨b, e1, e2⟩ := map_some e
  cases e2
  obtain ⟨p, q, e3, e4, rfl⟩ := eqO_some e1
  obtain ⟨h1, h2, h3⟩ := toP_ok R _ _ _ _ r1 e3
  obtain ⟨h4, h5, h6⟩ := toP_ok R _ _ _ _ r2 e4
  exact ⟨p, q, h1, h4, shaped_of h2 h3, shaped_of h5 h6, P.now R (.bl _)⟩
theorem cm_eq (hu : X.A.units + 64 < cLine) : Cmp X cad .Eq kEq := ⟨⟨_, op_eqD hu, od_eq⟩⟩
theorem cm_ne (hu : X.A.units + 64 < cLine) : Cmp X cad .NotEq kNe := ⟨⟨_, op_neD hu, od_ne⟩⟩

/-! ### is None -/
def kIs : O2 := fun x y st => match x, y with
  | .non, .non => some (.bl true, st)
  | _, .non => some (.bl false, st)
  | _, _ => none
def kIsNot : O2 := fun x y st => match x, y with
  | .non, .non => some (.bl false, st)
  | _, .non => some (.bl true, st)
  | _, _ => none
theorem od_is {K : PySem.W.Frag} : OpD K cad (fun x y H Q => y = .non ∧ Q (.bl (decide (x = .non))) H) kIs := by
  intro as st H x y v w d st' Q R r1 r2 e P
  cases r2 with
  | non =>
    cases r1 <;> (cases e; refine ⟨rfl, ?_⟩; exact P.now R (.bl _))
  | _ => cases r1 <;> cases e
theorem od_isnot {K : PySem.W.Frag} : OpD K cad (fun x y H Q => y = .non ∧ Q (.bl (!decide (x = .non))) H) kIsNot := by
  intro as st H x y v w d st' Q R r1 r2 e P
  cases r2 with
  | non =>
    cases r1 <;> (cases e; refine ⟨rfl, ?_⟩; exact P.now R (.bl _))
  | _ => cases r1 <;> cases e
theorem cm_is : Cmp X cad .Is kIs := ⟨⟨_, op_isN, od_is⟩⟩
theorem cm_isnot : Cmp X cad .IsNot kIsNot := ⟨⟨_, op_notN, od_isnot⟩⟩

/-! ### in -/
/-- what == answers of an item that reads as some data, told by the item -/
noncomputable def eqItem (h : Heap) (q : PyData) (u : Value) : Bool := by
  classical exact if hu : ∃ p as, Reads h u p as ∧ p.canLay0 = true then PyData.eqv (Classical.choose hu) q else false
theorem eqItem_of {h : Heap} {q p : PyData} {u : Value} {as : List Addr} (r : Reads h u p as) (c : p.canLay0 = true) : eqItem h q u = PyData.eqv p q := by
  have hu : ∃ p as, Reads h u p as ∧ p.canLay0 = true := ⟨p, as, r, c⟩
  unfold eqItem
  rw [dif_pos hu]
  obtain ⟨as', r', c'⟩ := Classical.choose_spec hu
  rw [PySem.SeqAt.Reads.unique _ _ _ _ _ c r r']
def rInD (K : PySem.W.Frag) (neg : Bool) : R2 := fun x y H Q => ∃ p xs q ps, y = .ref p ∧ (SqL K H p xs ∨ SqT K H p xs) ∧ Dp K H x q ∧ q.canLay0 = true ∧ q.depth ≤ 60 ∧ DpAll K H xs ps ∧ PyData.canLayAll0 ps = true ∧
  Q (.bl (if neg then !ps.any (fun p => PyData.eqv p q) else ps.any fun p => PyData.eqv p q)) H
theorem readsAll_mem {h : Heap} {q : PyData} {v : Value} {A : Around} {s : Shared} (hs : s.heap = h) (hv : ∃ bs, Reads h v q bs) (hq : q.canLay0 = true) (hu : A.units + q.depth < cLine) :
    ∀ {us : List Value} {ps : List PyData} {as : List Addr}, ReadsAll h us ps as → PyData.canLayAll0 ps = true → (∀ u ∈ us, SeqAt.EqAt A s u v (eqItem h q u)) ∧ us.any (eqItem h q) = ps.any fun p => PyData.eqv p q
  | [], _, _, .nil, _ => ⟨(fun u hu => by cases hu), rfl⟩
  | u :: us, p :: ps, _, .cons r t, c => by
    have c' : (PyData.canLay0 p && PyData.canLayAll0 ps) = true := c
    rw [Bool.and_eq_true] at c'
    obtain ⟨h1, h2⟩ := readsAll_mem hs hv hq hu t c'.2
    have e := eqItem_of (q := q) r c'.1
    refine ⟨fun u' hu' => ?_, ?_⟩
    · rcases List.mem_cons.mp hu' with rfl | hu'
      · rw [e]
        obtain ⟨bs, rv⟩ := hv
        subst hs
        refine SeqAt.eqAt_reads p q A s _ _ _ _ r rv c'.1 hq ?_
        have : min p.depth q.depth ≤ q.depth := Nat.min_le_right _ _
        omega
      · exact h1 u' hu'
    · rw [List.any_cons, List.any_cons, h2, e]
theorem op_inD (hu : X.A.units + 64 < cLine) : OpR X (compareOp .In) (rInD X.K false) := by
  intro pins s σ H x y v u Q I rx ry h
  obtain ⟨p, xs, q, ps, rfl, hq, dx, cx, ex, da, ca, k⟩ := h
  cases ry
  have hv := Dp.reads I q x v dx rx
  have hu1 : X.A.in1.units + q.depth < cLine := by
    show X.A.units + 1 + q.depth < cLine
    omega
  rcases hq with hq | hq
  · obtain ⟨its, r, pl, hz⟩ := I.list hq
    obtain ⟨as, ra⟩ := Dp.readsAll I ps xs its da r
    obtain ⟨m1, m2⟩ := readsAll_mem (A := X.A.in1) rfl hv cx hu1 ra ca
    refine SeqAt.in_listAt (eqItem s.heap q) pl.isList (fun w hw => m1 w (by simpa using hw)) ⟨.bl _, H, I, rfl, ?_⟩
    rw [show its.toArray.any (eqItem s.heap q) = its.any (eqItem s.heap q) by simp, m2]
    exact k
  · obtain ⟨its, r, pl, hz⟩ := I.tuple hq
    obtain ⟨as, ra⟩ := Dp.readsAll I ps xs its da r
    obtain ⟨m1, m2⟩ := readsAll_mem (A := X.A.in1) rfl hv cx hu1 ra ca
    refine SeqAt.in_tupleAt (eqItem s.heap q) pl (fun w hw => m1 w (by simpa using hw)) ⟨.bl _, H, I, rfl, ?_⟩
    rw [show its.toArray.any (eqItem s.heap q) = its.any (eqItem s.heap q) by simp, m2]
    exact k
theorem op_notInD (hu : X.A.units + 64 < cLine) : OpR X (compareOp .NotIn) (rInD X.K true) := by
  intro pins s σ H x y v u Q I rx ry h
  obtain ⟨p, xs, q, ps, rfl, hq, dx, cx, ex, da, ca, k⟩ := h
  cases ry
  have hv := Dp.reads I q x v dx rx
  have hu1 : X.A.in1.units + q.depth < cLine := by
    show X.A.units + 1 + q.depth < cLine
    omega
  rcases hq with hq | hq
  · obtain ⟨its, r, pl, hz⟩ := I.list hq
    obtain ⟨as, ra⟩ := Dp.readsAll I ps xs its da r
    obtain ⟨m1, m2⟩ := readsAll_mem (A := X.A.in1) rfl hv cx hu1 ra ca
    refine SeqAt.notIn_listAt (eqItem s.heap q) pl.isList (fun w hw => m1 w (by simpa using hw)) ⟨.bl _, H, I, rfl, ?_⟩
    rw [show its.toArray.any (eqItem s.heap q) = its.any (eqItem s.heap q) by simp, m2]
    exact k
  · obtain ⟨its, r, pl, hz⟩ := I.tuple hq
    obtain ⟨as, ra⟩ := Dp.readsAll I ps xs its da r
    obtain ⟨m1, m2⟩ := readsAll_mem (A := X.A.in1) rfl hv cx hu1 ra ca
    refine SeqAt.notIn_tupleAt (eqItem s.heap q) pl (fun w hw => m1 w (by simpa using hw)) ⟨.bl _, H, I, rfl, ?_⟩
    rw [show its.toArray.any (eqItem s.heap q) = its.any (eqItem s.heap q) by simp, m2]
    exact k

/-! dicts -/
def keyOf : D → Option Key
  | .int i => some (.inl i)
  | .str l => some (.inr (mkS l))
  | _ => none
def valD (kvs : List (Key × D)) (k : Key) : Option D := (kvs.find? fun kv => decide (kv.1 = k)).map (·.2)
theorem keyOf_is {K : PySem.W.Frag} {as : List Addr} {H : Hp} {x : D} {v : V} {k : Key} (r : VR K as H x v) (e : keyOf x = some k) : v = kV k := by
  cases r with
  | int i => cases e; rfl
  | str h => cases e; rfl
  | _ => cases e
abbrev KVR (K : PySem.W.Frag) (as : List Addr) (H : Hp) : List (Key × D) → List (Key × V) → Prop := Paired (fun (p : Key × D) (q : Key × V) => p.1 = q.1 ∧ VR K as H p.2 q.2)
def VRO (K : PySem.W.Frag) (as : List Addr) (H : Hp) : Option D → Option V → Prop
  | some d, some v => VR K as H d v
  | none, none => True
  | _, _ => False
theorem KVR.val {K : PySem.W.Frag} {as : List Addr} {H : Hp} {kvs : List (Key × D)} {xs : List (Key × V)} (r : KVR K as H kvs xs) (k : Key) : VRO K as H (valD kvs k) (valV xs k) := by
  induction r with
  | nil => trivial
  | @cons p q ps qs h _ ih =>
    unfold valD valV
    rw [List.find?_cons, List.find?_cons, h.1]
    by_cases e : q.1 = k
    · rw [decide_eq_true e]
      exact h.2
    · rw [decide_eq_false e]
      exact ih
def myD (st : Sto) (n : Nat) : Option (List (Key × D)) := match st[n]? with
  | some (.dic kvs) => some kvs
  | _ => none
theorem myD_at {st : Sto} {n : Nat} {kvs : List (Key × D)} (h : myD st n = some kvs) : st[n]? = some (.dic kvs) := by
  unfold myD at h
  split at h
  · rename_i es e
    cases h
    exact e
  · cases h
theorem Rel.myD {K : PySem.W.Frag} {as : List Addr} {st : Sto} {H : Hp} {n : Nat} {a : Addr} {kvs : List (Key × D)} (R : Rel K cad as st H) (h : myD st n = some kvs) (ha : as[n]? = some a) : ∃ xs, H a = some (.dK xs) ∧ KVR K as H kvs xs := R.ob n _ a (myD_at h) ha
/-- a text in a text -/
def subS (l m : List Nat) : Bool := !(Builtin.Str.occurrences (mkS m) (mkS l) 0 (mkS m).length 1).isEmpty
theorem subS_one (c : Nat) (m : List Nat) : subS [c] m = decide (c ∈ m) := PySem.StrLaws.found_one (mkS m) c
def inD (st : Sto) (x : D) (ds : List D) : Option Bool := match toP st DEEP x, mapO (toP st DEEP) ds with
  | some p, some ps => some (ps.any fun q => PyData.eqv q p)
  | _, _ => none
def inO (st : Sto) (x y : D) : Option Bool := match y with
  | .tup ds => inD st x ds
  | .str m => match x with
    | .str l => some (subS l m)
    | _ => none
  | .ref k => match rdL st k with
    | some ds => inD st x ds
    | none => match myD st k, keyOf x with
      | some kvs, some key => some (valD kvs key).isSome
      | _, _ => none
  | _ => none
def kIn (neg : Bool) : O2 := fun x y st => (inO st x y).map fun b => (.bl (if neg then !b else b), st)
def rInS (neg : Bool) : R2 := fun x y H Q => ∃ i j, x = .str i ∧ y = .str j ∧ Q (.bl (if neg then !(!(Builtin.Str.occurrences j i 0 j.length 1).isEmpty) else !(Builtin.Str.occurrences j i 0 j.length 1).isEmpty)) H
def rInK (neg : Bool) : R2 := fun x y H Q => ∃ a o, y = .ref a ∧ DGet H a x o ∧ Q (.bl (if neg then !o.isSome else o.isSome)) H
theorem op_inS : OpR X (compareOp .In) (rInS false) := op_in_str
theorem op_notInS : OpR X (compareOp .NotIn) (rInS true) := op_notIn_str
theorem op_inK (hu : X.A.units + 64 < cLine) : OpR X (compareOp .In) (rInK false) := by
  intro pins s σ H x y v u Q I rx ry h
  obtain ⟨a, o, rfl, g, q⟩ := h
  cases ry
  exact d_in (by omega) I g rx fun s' I' => ⟨.bl _, H, I', rfl, q⟩
theorem op_notInK (hu : X.A.units + 64 < cLine) : OpR X (compareOp .NotIn) (rInK true) := by
  intro pins s σ H x y v u Q I rx ry h
  obtain ⟨a, o, rfl, g, q⟩ := h
  cases ry
  exact d_notIn (by omega) I g rx fun s' I' => ⟨.bl _, H, I', rfl, q⟩
theorem inD_some {st : Sto} {x : D} {ds : List D} {b : Bool} (h : inD st x ds = some b) : ∃ p ps, toP st DEEP x = some p ∧ mapO (toP st DEEP) ds = some ps ∧ b = ps.any fun q => PyData.eqv q p := by
  unfold inD at h
  split at h
  · rename_i p ps e1 e2
    cases h
    exact ⟨p, ps, e1, e2, rfl⟩
  · cases h
theorem inD_to {K : PySem.W.Frag} {neg : Bool} {as : List Addr} {st : Sto} {H : Hp} {x : D} {v : V} {ds : List D} {xs : List V} {a : Addr} {b : Bool} {Q : VK} (R : Rel K cad as st H) (r1 : VR K as H x v) (h : inD st x ds = some b)
    (hs : SqL K H a xs ∨ SqT K H a xs) (rs : VRs K as H ds xs) (P : Post K cad as H st (.bl (if neg then !b else b)) Q) : rInD K neg v (.ref a) H Q := by
  obtain ⟨p, ps, e3, e4, rfl⟩ := inD_some h
  obtain ⟨h1, h2, h3⟩ := toP_ok R _ _ _ _ r1 e3
  obtain ⟨h4, h5, h6⟩ := toP_all (toP_ok R DEEP) rs e4
  exact ⟨a, xs, p, ps, rfl, hs, h1, h2, Nat.le_trans h3 (by decide : DEEP ≤ 60), h4, h5, P.now R (.bl _)⟩
theorem od_in {K : PySem.W.Frag} (neg : Bool) : OpD K cad (fun x y H Q => rInD K neg x y H Q ∨ rInS neg x y H Q ∨ rInK neg x y H Q) (kIn neg) := by
  intro as st H x y v w d st' Q R r1 r2 e P
  obtain ⟨b, e1, e2⟩ := map_some e
  cases e2
  cases r2 with
  | @tup a xs ds hs rs => exact .inl (inD_to R r1 e1 (.inr hs) rs P)
  | @str m hm =>
    cases r1 with
    | @str l hl =>
      simp only [inO] at e1
      cases e1
      exact .inr (.inl ⟨_, _, rfl, rfl, P.now R (.bl _)⟩)
    | _ => cases e1
  | @ref k a ha =>
    simp only [inO] at e1
    split at e1
    · rename_i ds e0
      obtain ⟨xs, hs, rs⟩ := R.rdL e0 ha
      exact .inl (inD_to R r1 e1 (.inl hs) rs P)
    · split at e1
      · rename_i kvs key e3 e4
        cases e1
        obtain ⟨xs, hs, rs⟩ := R.myD e3 ha
        refine .inr (.inr ⟨a, valV xs key, rfl, ?_, ?_⟩)
        · rw [keyOf_is r1 e4]
          exact DGet.k hs
        · have hv := rs.val key
          have e5 : (valD kvs key).isSome = (valV xs key).isSome := by
            cases h1 : valD kvs key <;> cases h2 : valV xs key <;> rw [h1, h2] at hv <;> first | rfl | exact hv.elim
          rw [e5] at P
          exact P.now R (.bl _)
      · cases e1
  | _ => cases e1
theorem cm_in (hu : X.A.units + 64 < cLine) : Cmp X cad .In (kIn false) := ⟨⟨_, (op_inD hu).or (op_inS.or (op_inK hu)), od_in false⟩⟩
theorem cm_notIn (hu : X.A.units + 64 < cLine) : Cmp X cad .NotIn (kIn true) := ⟨⟨_, (op_notInD hu).or (op_notInS.or (op_notInK hu)), od_in true⟩⟩

/-! ### truth, tests -/
def truD (st : Sto) : D → Option Bool
  | .non => some false
  | .bl b => some b
  | .int i => some (i != 0)
  | .str l => if l.length ≤ LIM then some (!l.isEmpty) else none
  | .tup ds => some (!ds.isEmpty)
  | .ref n => match rdL st n with
    | some ds => some (!ds.isEmpty)
    | none => (myD st n).map fun kvs => !kvs.isEmpty
theorem truD_ok {K : PySem.W.Frag} {as : List Addr} {st : Sto} {H : Hp} {d : D} {v : V} {b : Bool} (R : Rel K cad as st H) (r : VR K as H d v) (e : truD st d = some b) : TruV K v H b := by
  cases r with
  | non => cases e; rfl
  | bl k => cases e; rfl
  | int i => cases e; rfl
  | @str l hl =>
    simp only [truD] at e
    split at e
    · cases e
      rename_i hz
      refine ⟨?_, ?_⟩
      · rw [mkS_len]
        exact lim_ok hz
      · rw [mkS_len]
        cases l <;> rfl
    · cases e
  | @tup a xs ds hs rs =>
    cases e
    exact .inr (.inl ⟨xs, hs, by rw [rs.isEmpty]⟩)
  | @ref n a ha =>
    simp only [truD] at e
    split at e
    · rename_i ds e0
      cases e
      obtain ⟨xs, hs, rs⟩ := R.rdL e0 ha
      exact .inl ⟨xs, hs, by rw [rs.isEmpty]⟩
    · obtain ⟨kvs, e1, rfl⟩ := map_some e
      obtain ⟨xs, hs, rs⟩ := R.myD e1 ha
      refine .inr (.inr ⟨xs, hs, ?_⟩)
      cases rs <;> rfl
def tOf (f : ME) : MT := fun ρ st => (f ρ st).bind fun p => (truD p.2 p.1).map fun b => (b, p.2)
theorem it_of (ha : IE X cad a f) (he : ∀ whole, isTrue a X.env whole = (do let v ← whole; standAt a.pos; holding [v] (truthy v)) := by intro _; rfl) : IT X cad a (tOf f) := by
  refine pt_weak (pt_truth ha he) fun σ H Q => ?_
  rintro ⟨as, st, ρ, d, st', R, E, q, P⟩
  obtain ⟨⟨x, st1⟩, e1, q⟩ := bind_some q
  obtain ⟨k, e2, e3⟩ := map_some q
  obtain ⟨rfl, rfl⟩ := Prod.mk.inj e3
  exact tI_run R E e1 fun as1 H1 v x1 R1 E1 r1 => ⟨k, truD_ok R1 r1 e2, P as1 H1 x1 R1⟩
/-- a comparison as a test -/
theorem it_cmp {op : CmpOp} {o : O2} (h : Cmp X cad op o) (ha : IE X cad a f) (hb : IE X cad b g) (hm : behindInMarks op b = false) (ho : ∀ x y st d st', o x y st = some (d, st') → ∃ k, d = .bl k) : IT X cad (.Compare a [op] [b] pos) (tOf (eBin o f g)) := by
  obtain ⟨r, h1, h2⟩ := h.has
  refine pt_weak (pt_cmpR h1 ha hb hm) fun σ H Q => ?_
  rintro ⟨as, st, ρ, d, st', R, E, q, P⟩
  obtain ⟨⟨x, st1⟩, e1, q⟩ := bind_some q
  obtain ⟨k, e2, e3⟩ := map_some q
  obtain ⟨rfl, rfl⟩ := Prod.mk.inj e3
  refine tI_op h2 ⟨as, st, ρ, x, st1, R, E, e1, fun as1 H1 v x1 R1 r1 => ?_⟩
  obtain ⟨⟨y1, s1⟩, _, f2⟩ := bind_some e1
  obtain ⟨⟨y2, s2⟩, _, f2⟩ := bind_some f2
  obtain ⟨k', rfl⟩ := ho _ _ _ _ _ f2
  have e4 : k' = k := Option.some.inj e2
  subst e4
  cases r1
  exact ⟨k', rfl, P as1 H1 x1 R1⟩
end
end MP

set_option maxRecDepth 100000
/-! MP 5: and, or, not, if, chains; displays; subscripts and slices; calls. -/
namespace MP
open PySem PySem.Spec PyProof.Rows L2

section
variable {X : Cx} {cad : Cad} {e a b c : Expr} {f g h : ME} {t u : MT} {pos : Pos} {rest : List Expr}
/-! ### tests put together -/
def tAnd (t u : MT) : MT := fun ρ st => (t ρ st).bind fun p => if p.1 = true then u ρ p.2 else some (false, p.2)
def tOr (t u : MT) : MT := fun ρ st => (t ρ st).bind fun p => if p.1 = true then some (true, p.2) else u ρ p.2
def tNot (t : MT) : MT := fun ρ st => (t ρ st).map fun p => (!p.1, p.2)
def IW (X : Cx) (cad : Cad) (e : Expr) (t : MT) : Prop := PW X e (tIT X.K cad t)
theorem tIT_run {K : PySem.W.Frag} {cad : Cad} {as : List Addr} {st st' : Sto} {H : Hp} {ρ : Rho} {σ : L2.St} {t : MT} {b : Bool} {Q : Bool → Hp → Prop} (R : Rel K cad as st H) (E : ER K as H ρ σ) (e : t ρ st = some (b, st'))
    (P : ∀ as' H', Ext K as H as' H' → Rel K cad as' st' H' → ER K as' H' ρ σ → Q b H') : tIT K cad t σ H Q :=
  ⟨as, st, ρ, b, st', R, E, e, fun as' H' x R' => P as' H' x R' (E.mono x)⟩
theorem tIA_run {K : PySem.W.Frag} {cad : Cad} {as : List Addr} {st st' : Sto} {H : Hp} {ρ : Rho} {σ : L2.St} {f : MA} {ds : List D} {Q : List V → Hp → Prop} (R : Rel K cad as st H) (E : ER K as H ρ σ) (e : f ρ st = some (ds, st'))
    (P : ∀ as' H' vs, Ext K as H as' H' → Rel K cad as' st' H' → ER K as' H' ρ σ → VRs K as' H' ds vs → Q vs H') : tIA K cad f σ H Q :=
  ⟨as, st, ρ, ds, st', R, E, e, fun as' H' v x R' r => P as' H' v x R' (E.mono x) r⟩
theorem iw_and1 (ha : IT X cad a t) : IW X cad (.BoolOp .And [a] pos) t := pw_and1 ha
theorem iw_or1 (ha : IT X cad a t) : IW X cad (.BoolOp .Or [a] pos) t := pw_or1 ha
theorem iw_and (ha : IT X cad a t) (hb : IW X cad (.BoolOp .And (b :: rest) pos) u) : IW X cad (.BoolOp .And (a :: b :: rest) pos) (tAnd t u) := by
  refine pw_weak (pw_and ha hb) fun σ H Q => ?_
  rintro ⟨as, st, ρ, d, st', R, E, q, P⟩
  obtain ⟨⟨x, st1⟩, e1, q⟩ := bind_some q
  refine tIT_run R E e1 fun as1 H1 x1 R1 E1 => ?_
  cases x with
  | true => exact iteT (tIT_run R1 E1 q fun as2 H2 x2 R2 E2 => P as2 H2 (x1.trans x2) R2)
  | false =>
    cases q
    exact iteF (P as1 H1 x1 R1)
theorem iw_or (ha : IT X cad a t) (hb : IW X cad (.BoolOp .Or (b :: rest) pos) u) : IW X cad (.BoolOp .Or (a :: b :: rest) pos) (tOr t u) := by
  refine pw_weak (pw_or ha hb) fun σ H Q => ?_
  rintro ⟨as, st, ρ, d, st', R, E, q, P⟩
  obtain ⟨⟨x, st1⟩, e1, q⟩ := bind_some q
  refine tIT_run R E e1 fun as1 H1 x1 R1 E1 => ?_
  cases x with
  | true =>
    cases q
    exact iteT (P as1 H1 x1 R1)
  | false => exact iteF (tIT_run R1 E1 q fun as2 H2 x2 R2 E2 => P as2 H2 (x1.trans x2) R2)
theorem it_bool (h : IW X cad a t) : IT X cad a t := PW.pt h
theorem it_not (ha : IT X cad a t) : IT X cad (.UnaryOp .Not a pos) (tNot t) := by
  refine pt_weak (pt_not ha) fun σ H Q => ?_
  rintro ⟨as, st, ρ, d, st', R, E, q, P⟩
  obtain ⟨⟨x, st1⟩, e1, e2⟩ := map_some q
  obtain ⟨rfl, rfl⟩ := Prod.mk.inj e2
  exact tIT_run R E e1 fun as1 H1 x1 R1 E1 => P as1 H1 x1 R1
/-! ### .. as values -/
def eAnd (f g : ME) : ME := fun ρ st => (f ρ st).bind fun p => (truD p.2 p.1).bind fun k => if k = true then g ρ p.2 else some p
def eOr (f g : ME) : ME := fun ρ st => (f ρ st).bind fun p => (truD p.2 p.1).bind fun k => if k = true then some p else g ρ p.2
def eNot (f : ME) : ME := fun ρ st => (f ρ st).bind fun p => (truD p.2 p.1).map fun k => (.bl (!k), p.2)
theorem ie_one {op} (ha : IE X cad a f) : IE X cad (.BoolOp op [a] pos) f := pe_one ha
theorem ie_andV (ha : IE X cad a f) (hb : IE X cad (.BoolOp .And (b :: rest) pos) g) : IE X cad (.BoolOp .And (a :: b :: rest) pos) (eAnd f g) := by
  refine pe_weak (pe_andT ha hb) fun σ H Q => ?_
  rintro ⟨as, st, ρ, d, st', R, E, q, P⟩
  obtain ⟨⟨x, st1⟩, e1, q⟩ := bind_some q
  obtain ⟨k, e2, q⟩ := bind_some q
  refine tI_run R E e1 fun as1 H1 v x1 R1 E1 r1 => ⟨k, truD_ok R1 r1 e2, ?_⟩
  cases k with
  | true => exact iteT (tI_run R1 E1 q fun as2 H2 w x2 R2 E2 r2 => P as2 H2 w (x1.trans x2) R2 r2)
  | false =>
    cases q
    exact iteF (P as1 H1 v x1 R1 r1)
theorem ie_orV (ha : IE X cad a f) (hb : IE X cad (.BoolOp .Or (b :: rest) pos) g) : IE X cad (.BoolOp .Or (a :: b :: rest) pos) (eOr f g) := by
  refine pe_weak (pe_orT ha hb) fun σ H Q => ?_
  rintro ⟨as, st, ρ, d, st', R, E, q, P⟩
  obtain ⟨⟨x, st1⟩, e1, q⟩ := bind_some q
  obtain ⟨k, e2, q⟩ := bind_some q
  refine tI_run R E e1 fun as1 H1 v x1 R1 E1 r1 => ⟨k, truD_ok R1 r1 e2, ?_⟩
  cases k with
  | true =>
    cases q
    exact iteT (P as1 H1 v x1 R1 r1)
  | false => exact iteF (tI_run R1 E1 q fun as2 H2 w x2 R2 E2 r2 => P as2 H2 w (x1.trans x2) R2 r2)
theorem ie_notV (ha : IE X cad a f) : IE X cad (.UnaryOp .Not a pos) (eNot f) := by
  refine pe_weak (pe_notT ha) fun σ H Q => ?_
  rintro ⟨as, st, ρ, d, st', R, E, q, P⟩
  obtain ⟨⟨x, st1⟩, e1, q⟩ := bind_some q
  obtain ⟨k, e2, e3⟩ := map_some q
  obtain ⟨rfl, rfl⟩ := Prod.mk.inj e3
  exact tI_run R E e1 fun as1 H1 v x1 R1 E1 r1 => ⟨k, truD_ok R1 r1 e2, (P.ext x1).now R1 (.bl _)⟩
def eIf (t : MT) (f g : ME) : ME := fun ρ st => (t ρ st).bind fun p => if p.1 = true then f ρ p.2 else g ρ p.2
theorem ie_if (ht : IT X cad c t) (ha : IE X cad a f) (hb : IE X cad b g) : IE X cad (.IfExp c a b pos) (eIf t f g) := by
  refine pe_weak (pe_ifExp ht ha hb) fun σ H Q => ?_
  rintro ⟨as, st, ρ, d, st', R, E, q, P⟩
  obtain ⟨⟨x, st1⟩, e1, q⟩ := bind_some q
  refine tIT_run R E e1 fun as1 H1 x1 R1 E1 => ?_
  cases x with
  | true => exact iteT (tI_run R1 E1 q fun as2 H2 w x2 R2 E2 r2 => P as2 H2 w (x1.trans x2) R2 r2)
  | false => exact iteF (tI_run R1 E1 q fun as2 H2 w x2 R2 E2 r2 => P as2 H2 w (x1.trans x2) R2 r2)
/-- a op b op' c -/
def eChain (o o' : O2) (f g h : ME) : ME := fun ρ st => (f ρ st).bind fun x => (g ρ x.2).bind fun y => (o x.1 y.1 y.2).bind fun r => match r.1 with
  | .bl true => (h ρ r.2).bind fun z => o' y.1 z.1 z.2
  | .bl false => some (.bl false, r.2)
  | _ => none
theorem chain_to {K : PySem.W.Frag} {r r' : R2} {o o' : O2} (h1 : OpD K cad r o) (h2 : OpD K cad r' o') {σ : L2.St} {H : Hp} {Q : VK} (hw : tI K cad (eChain o o' f g h) σ H Q) : tChain r r' (tI K cad f) (tI K cad g) (tI K cad h) σ H Q := by
  obtain ⟨as, st, ρ, d, st', R, E, q, P⟩ := hw
  obtain ⟨⟨x, st1⟩, e1, q⟩ := bind_some q
  obtain ⟨⟨y, st2⟩, e2, q⟩ := bind_some q
  obtain ⟨⟨z, st3⟩, e3, q⟩ := bind_some q
  refine tI_run R E e1 fun as1 H1 v x1 R1 E1 r1 => tI_run R1 E1 e2 fun as2 H2 w x2 R2 E2 r2 => h1 as2 st2 H2 x y v w z st3 _ R2 (r1.mono x2) r2 e3 fun as3 H3 u x3 R3 r3 => ?_
  cases r3 with
  | bl k =>
    refine ⟨k, rfl, ?_⟩
    cases k with
    | true =>
      obtain ⟨⟨z, st4⟩, e4, q⟩ := bind_some q
      exact iteT (tI_run R3 (E2.mono x3) e4 fun as4 H4 s x4 R4 E4 r4 => h2 as4 st4 H4 y z w s d st' Q R4 (r2.mono (x3.trans x4)) r4 q (P.ext (x1.trans (x2.trans (x3.trans x4)))))
    | false =>
      cases q
      exact iteF ((P.ext (x1.trans (x2.trans x3))).now R3 (.bl _))
  | _ => cases q
theorem ie_chain {op op' : CmpOp} {o o' : O2} (h1 : Cmp X cad op o) (h2 : Cmp X cad op' o') (ha : IE X cad a f) (hb : IE X cad b g) (hc : IE X cad c h) (hm : lastMarks [op, op'] [b, c] = false := by with_unfolding_all rfl) : IE X cad (.Compare a [op, op'] [b, c] pos) (eChain o o' f g h) := by
  obtain ⟨r, h1, h1'⟩ := h1.has
  obtain ⟨r', h2, h2'⟩ := h2.has
  exact pe_weak (pe_chain h1 h2 ha hb hc hm) fun _ _ _ => chain_to h1' h2'
/-- what an operation tells is a truth -/
def IsBl (o : O2) : Prop := ∀ x y st d st', o x y st = some (d, st') → ∃ k, d = .bl k
theorem bl_ord {ki ks} : IsBl (opOrd ki ks) := by
  intro x y st d st' e
  cases x <;> cases y <;> first | (cases e; exact ⟨_, rfl⟩) | cases e
theorem bl_eq : IsBl kEq := by
  intro x y st d st' e
  obtain ⟨b, _, e2⟩ := map_some e
  cases e2
  exact ⟨_, rfl⟩
theorem bl_ne : IsBl kNe := by
  intro x y st d st' e
  obtain ⟨b, _, e2⟩ := map_some e
  cases e2
  exact ⟨_, rfl⟩
theorem bl_in {neg : Bool} : IsBl (kIn neg) := by
  intro x y st d st' e
  obtain ⟨b, _, e2⟩ := map_some e
  cases e2
  exact ⟨_, rfl⟩
theorem bl_is : IsBl kIs := by
  intro x y st d st' e
  cases x <;> cases y <;> first | (cases e; exact ⟨_, rfl⟩) | cases e
theorem bl_isnot : IsBl kIsNot := by
  intro x y st d st' e
  cases x <;> cases y <;> first | (cases e; exact ⟨_, rfl⟩) | cases e
theorem eChain_bl {o o' : O2} (h2 : IsBl o') {ρ : Rho} {st : Sto} {d : D} {st' : Sto} (e : eChain o o' f g h ρ st = some (d, st')) : ∃ k, d = .bl k := by
  obtain ⟨x, e1, q⟩ := bind_some e
  obtain ⟨y, e2, q⟩ := bind_some q
  obtain ⟨⟨z, st3⟩, e3, q⟩ := bind_some q
  cases z with
  | bl k =>
    cases k with
    | true =>
      obtain ⟨z, e4, q⟩ := bind_some q
      exact h2 _ _ _ _ _ q
    | false =>
      cases q
      exact ⟨_, rfl⟩
  | _ => cases q
theorem it_chain {op op' : CmpOp} {o o' : O2} (h1 : Cmp X cad op o) (h2 : Cmp X cad op' o') (ha : IE X cad a f) (hb : IE X cad b g) (hc : IE X cad c h) (ho : IsBl o') (hm : lastMarks [op, op'] [b, c] = false := by with_unfolding_all rfl) :
    IT X cad (.Compare a [op, op'] [b, c] pos) (tOf (eChain o o' f g h)) := by
  obtain ⟨r, h1, h1'⟩ := h1.has
  obtain ⟨r', h2, h2'⟩ := h2.has
  refine pt_weak (pt_chain h1 h2 ha hb hc hm) fun σ H Q => ?_
  rintro ⟨as, st, ρ, d, st', R, E, q, P⟩
  obtain ⟨⟨x, st1⟩, e1, q⟩ := bind_some q
  obtain ⟨k, e2, e3⟩ := map_some q
  obtain ⟨rfl, rfl⟩ := Prod.mk.inj e3
  refine chain_to h1' h2' ⟨as, st, ρ, x, st1, R, E, e1, fun as1 H1 v x1 R1 r1 => ?_⟩
  obtain ⟨k', rfl⟩ := eChain_bl ho e1
  have e4 : k' = k := Option.some.inj e2
  subst e4
  cases r1
  exact ⟨k', rfl, P as1 H1 x1 R1⟩

/-! ### displays -/
def aNil : MA := fun _ st => some ([], st)
def aCons (f : ME) (g : MA) : MA := fun ρ st => (f ρ st).bind fun p => (g ρ p.2).bind fun q => some (p.1 :: q.1, q.2)
theorem ia_nil : IA X cad [] aNil := by
  refine pa_weak pa_nil fun σ H Q => ?_
  rintro ⟨as, st, ρ, d, st', R, E, q, P⟩
  cases q
  exact P as H [] .refl R .nil
theorem ia_cons {es : List Expr} {g : MA} (ha : IE X cad a f) (hb : IA X cad es g) (hs : starEach (a :: es) X.env = (false, eval a X.env) :: starEach es X.env := by rfl) : IA X cad (a :: es) (aCons f g) := by
  refine pa_weak (pa_cons ha hb hs) fun σ H Q => ?_
  rintro ⟨as, st, ρ, d, st', R, E, q, P⟩
  obtain ⟨⟨x, st1⟩, e1, q⟩ := bind_some q
  obtain ⟨⟨ys, st2⟩, e2, q⟩ := bind_some q
  cases q
  exact tI_run R E e1 fun as1 H1 v x1 R1 E1 r1 => tIA_run R1 E1 e2 fun as2 H2 vs x2 R2 E2 r2 => P as2 H2 (v :: vs) (x1.trans x2) R2 (.cons (r1.mono x2) r2)
def eTup (g : MA) : ME := fun ρ st => (g ρ st).bind fun p => if p.1.length ≤ LIM then some (.tup p.1, p.2) else none
def eLst (g : MA) : ME := fun ρ st => (g ρ st).bind fun p => if p.1.length ≤ LIM then some (.ref p.2.length, p.2 ++ [.lst p.1]) else none
theorem ie_tup {es : List Expr} {g : MA} {x1} (h : IA X cad es g) : IE X cad (.Tuple es x1 pos) (eTup g) := by
  refine pe_weak (pe_tup h) fun σ H Q => ?_
  rintro ⟨as, st, ρ, d, st', R, E, q, P⟩
  obtain ⟨⟨ys, st1⟩, e1, q⟩ := bind_some q
  simp only at q
  split at q
  · rename_i hl
    cases q
    refine tIA_run R E e1 fun as1 H1 vs x1 R1 E1 r1 => ⟨?_, fun p hp => (P.ext x1).tup R1 r1 hp⟩
    rw [← r1.length]
    exact lim_ok hl
  · cases q
theorem ie_lst {es : List Expr} {g : MA} (h : IA X cad es g) : IE X cad (.List es pos) (eLst g) := by
  refine pe_weak (pe_lst h) fun σ H Q => ?_
  rintro ⟨as, st, ρ, d, st', R, E, q, P⟩
  obtain ⟨⟨ys, st1⟩, e1, q⟩ := bind_some q
  simp only at q
  split at q
  · rename_i hl
    cases q
    refine tIA_run R E e1 fun as1 H1 vs x1 R1 E1 r1 => ⟨?_, fun p hp => (P.ext x1).lst R1 r1 hp⟩
    rw [← r1.length]
    exact lim_ok hl
  · cases q
def eDic0 : ME := fun _ st => some (.ref st.length, st ++ [.dic []])
theorem ie_dic0 : IE X cad (.Dict [] [] pos) eDic0 := by
  refine pe_weak pe_dnewK fun σ H Q => ?_
  rintro ⟨as, st, ρ, d, st', R, E, q, P⟩
  cases q
  exact fun p hp => P.dic R hp

/-! ### subscripts -/
theorem ix_dict (hu : X.A.units + 64 < cLine) : IxR X (fun x y H Q => ∃ a v, x = .ref a ∧ DGet H a y (some v) ∧ Q v H) := by
  intro value slice pins s σ H x y v u Q I rx ry h hs
  obtain ⟨a, w, rfl, g, q⟩ := h
  obtain rfl : v = Value.ref a := rx
  exact tail_any (dict_typeIs I g) PySem.F.slot_dict_getitem.lookup (d_getItem (by omega) I g ry fun w' s' I' r' => ⟨w, H, I', r', q⟩) hs
def ixO (x y : D) (st : Sto) : Option D := match x with
  | .tup ds => match y with
    | .int i => atI ds i
    | _ => none
  | .str l => match y with
    | .int i => if l.length ≤ LIM then (atI l i).map fun c => .str [c] else none
    | _ => none
  | .ref k => match rdL st k with
    | some ds => match y with
      | .int i => atI ds i
      | _ => none
    | none => match myD st k, keyOf y with
      | some kvs, some key => valD kvs key
      | _, _ => none
  | _ => none
def kIx : O2 := fun x y st => (ixO x y st).map fun d => (d, st)
theorem VRs.atI {K : PySem.W.Frag} {as : List Addr} {H : Hp} {ds : List D} {vs : List V} {i : Int} {d : D} (r : VRs K as H ds vs) (e : atI ds i = some d) : ∃ v, L2.atI vs i = some v ∧ VR K as H d v := by
  unfold L2.atI at e ⊢
  rw [← r.length]
  obtain ⟨j, e1, e2⟩ := bind_some e
  obtain ⟨v, e3, r3⟩ := r.get e2
  exact ⟨v, by rw [e1]; exact e3, r3⟩
theorem od_ix {K : PySem.W.Frag} : OpD K cad (fun x y H Q => rIxL K x y H Q ∨ rIxT K x y H Q ∨ rIxS x y H Q ∨ ∃ a v, x = .ref a ∧ DGet H a y (some v) ∧ Q v H) kIx := by
  intro as st H x y v w d st' Q R r1 r2 e P
  obtain ⟨d', e1, e2⟩ := map_some e
  cases e2
  cases r1 with
  | @tup a xs ds hs rs =>
    cases r2 with
    | int i =>
      obtain ⟨v, e3, r3⟩ := rs.atI e1
      exact .inr (.inl ⟨a, xs, i, v, rfl, rfl, hs, e3, P.now R r3⟩)
    | _ => cases e1
  | @str l hl =>
    cases r2 with
    | int i =>
      simp only [ixO] at e1
      split at e1
      · rename_i hz
        obtain ⟨c, e3, rfl⟩ := map_some e1
        refine .inr (.inr (.inl ⟨mkS l, i, c, rfl, rfl, ?_, e3, ?_⟩))
        · rw [mkS_len]
          exact lim_ok hz
        · refine P.now R (VR.str (l := [c]) (okS_sub hl fun z hz => ?_))
          have : z = c := by simpa using hz
          subst this
          unfold L2.atI at e3
          obtain ⟨j, _, e4⟩ := bind_some e3
          exact List.mem_of_getElem? e4
      · cases e1
    | _ => cases e1
  | @ref k a ha =>
    simp only [ixO] at e1
    split at e1
    · rename_i ds e0
      obtain ⟨xs, hs, rs⟩ := R.rdL e0 ha
      cases r2 with
      | int i =>
        obtain ⟨v, e3, r3⟩ := rs.atI e1
        exact .inl ⟨a, xs, i, v, rfl, rfl, hs, e3, P.now R r3⟩
      | _ => cases e1
    · split at e1
      · rename_i kvs key e3 e4
        obtain ⟨xs, hs, rs⟩ := R.myD e3 ha
        have hv := rs.val key
        rw [e1] at hv
        cases e5 : valV xs key with
        | none =>
          rw [e5] at hv
          exact hv.elim
        | some z =>
          rw [e5] at hv
          refine .inr (.inr (.inr ⟨a, z, rfl, ?_, P.now R hv⟩))
          rw [keyOf_is r2 e4, ← e5]
          exact DGet.k hs
      · cases e1
  | _ => cases e1
theorem ie_ix (hu : X.A.units + 64 < cLine) (ha : IE X cad a f) (hb : IE X cad b g) (hs : PlainIx b) : IE X cad (.Subscript a b pos) (eBin kIx f g) :=
  pe_weak (pe_ix (ix_list.or (ix_tup.or (ix_str.or (ix_dict hu)))) ha hb hs) fun _ _ _ => tI_op od_ix

/-! ### slices -/
abbrev MO := Rho → Sto → Option (Option Int × Sto)
def oNone : MO := fun _ st => some (none, st)
def oSome (f : ME) : MO := fun ρ st => (f ρ st).bind fun p => match p.1 with
  | .int i => some (some i, p.2)
  | _ => none
def tIO (K : PySem.W.Frag) (cad : Cad) (f : MO) : TO := fun σ H Q => ∃ as st ρ o st', Rel K cad as st H ∧ ER K as H ρ σ ∧ f ρ st = some (o, st') ∧ ∀ as' H', Ext K as H as' H' → Rel K cad as' st' H' → Q o H'
def IO' (X : Cx) (cad : Cad) (e : Option Expr) (f : MO) : Prop := PO X e (tIO X.K cad f)
theorem po_weak {o : Option Expr} {t t' : TO} (h : PO X o t) (w : ∀ σ H Q, t' σ H Q → t σ H Q) : PO X o t' := ⟨fun pins s σ H Q I q => h.run pins s σ H Q I (w σ H Q q)⟩
theorem io_none : IO' X cad none oNone := by
  refine po_weak po_none fun σ H Q => ?_
  rintro ⟨as, st, ρ, d, st', R, E, q, P⟩
  cases q
  exact P as H .refl R
theorem io_some (ha : IE X cad a f) : IO' X cad (some a) (oSome f) := by
  refine po_weak (po_some ha) fun σ H Q => ?_
  rintro ⟨as, st, ρ, d, st', R, E, q, P⟩
  obtain ⟨⟨x, st1⟩, e1, q⟩ := bind_some q
  refine tI_run R E e1 fun as1 H1 v x1 R1 E1 r1 => ?_
  cases r1 with
  | int i =>
    cases q
    exact ⟨i, rfl, P as1 H1 x1 R1⟩
  | _ => cases q
def cutG {α : Type} (xs : List α) (lo hi : Option Int) : List α := (xs.drop (HT.sIx xs.length 0 lo)).take (HT.sIx xs.length xs.length hi - HT.sIx xs.length 0 lo)
def slO (x : D) (lo hi : Option Int) (st : Sto) : Option (D × Sto) := match x with
  | .str l => if l.length ≤ LIM then some (.str (cutG l lo hi), st) else none
  | .tup ds => if HT.sIx ds.length 0 lo = 0 ∧ HT.sIx ds.length ds.length hi = ds.length then none else some (.tup (cutG ds lo hi), st)
  | .ref k => (rdL st k).map fun ds => (.ref st.length, st ++ [.lst (cutG ds lo hi)])
  | _ => none
def eSl (f : ME) (p q : MO) : ME := fun ρ st => (f ρ st).bind fun x => (p ρ x.2).bind fun y => (q ρ y.2).bind fun z => slO x.1 y.1 z.1 z.2
theorem VRs.cut {K : PySem.W.Frag} {as : List Addr} {H : Hp} {ds : List D} {vs : List V} (r : VRs K as H ds vs) (lo hi : Option Int) : VRs K as H (cutG ds lo hi) (cutV vs lo hi) := by
  unfold cutG cutV
  rw [r.length]
  exact (r.drop _).take _
theorem ie_sl {lo hi : Option Expr} {p q : MO} {p2 : Pos} (ha : IE X cad a f) (hl : IO' X cad lo p) (hh : IO' X cad hi q) : IE X cad (.Subscript a (.Slice lo hi none p2) pos) (eSl f p q) := by
  refine pe_weak (pe_slice (sl_list.or (sl_tup.or sl_str)) ha hl hh) fun σ H Q => ?_
  rintro ⟨as, st, ρ, d, st', R, E, w, P⟩
  obtain ⟨⟨x, st1⟩, e1, w⟩ := bind_some w
  obtain ⟨⟨y, st2⟩, e2, w⟩ := bind_some w
  obtain ⟨⟨z, st3⟩, e3, w⟩ := bind_some w
  refine tI_run R E e1 fun as1 H1 v x1 R1 E1 r1 => ⟨as1, st1, ρ, y, st2, R1, E1, e2, fun as2 H2 x2 R2 => ⟨as2, st2, ρ, z, st3, R2, E1.mono x2, e3, fun as3 H3 x3 R3 => ?_⟩⟩
  have r3 := r1.mono (x2.trans x3)
  have P3 := P.ext (x1.trans (x2.trans x3))
  cases r3 with
  | @str l hl =>
    simp only [slO] at w
    split at w
    · rename_i hz
      cases w
      refine .inr (.inr ⟨mkS l, rfl, ?_, ?_⟩)
      · rw [mkS_len]
        exact lim_ok hz
      · have e4 : cutS (mkS l) y z = mkS (cutG l y z) := by
          unfold cutS cutG mkS
          simp [Str.length]
        rw [e4]
        exact P3.now R3 (.str (okS_sub hl fun c hc => List.mem_of_mem_drop (List.mem_of_mem_take hc)))
    · cases w
  | @tup b xs ds hs rs =>
    simp only [slO] at w
    split at w
    · cases w
    · rename_i hz
      cases w
      refine .inr (.inl ⟨b, xs, rfl, hs, ?_, fun p hp => P3.tup R3 (rs.cut y z) hp⟩)
      rw [← rs.length]
      exact hz
  | @ref k b hb =>
    obtain ⟨ds, e4, e5⟩ := map_some w
    cases e5
    obtain ⟨xs, hs, rs⟩ := R3.rdL e4 hb
    exact .inl ⟨b, xs, rfl, hs, fun p hp => P3.lst R3 (rs.cut y z) hp⟩
  | _ => cases w
end
end MP

set_option maxRecDepth 100000
/-! MP 6: calls of the text's own defs, of built-ins, of methods of built-in types. -/
namespace MP
open PySem PySem.Spec PyProof.Rows L2

/-- what a def tells of its arguments -/
abbrev FN := List D → Sto → Option (D × Sto)
def spOf (K : PySem.W.Frag) (cad : Cad) (F : FN) : Sp := fun vs H Q _ => ∃ as st ds d st', Rel K cad as st H ∧ VRs K as H ds vs ∧ F ds st = some (d, st') ∧ Post K cad as H st' d Q
/-- x is a def of the text that tells F, of as many values as it has params without dds -/
structure FnFact (P : Program) (w : World) (K : PySem.W.Frag) (mg : Str → Option Value) (base : Heap) (cad : Cad) (x : Str) (k : Nat) (dds : List D) (F : FN) : Prop where
  ex : ∃ (f : Addr) (fd : FuncData) (ps : List Str) (dvs : List V) (dus : List Value), FnOk P w K mg base CX0 k f fd ps (spOf K cad F) ∧ mg x = some (.ref f) ∧ PySem.W.keepIn K (.ref f) = true ∧ Binds K fd ps dus ∧ Vals dvs dus ∧ ∀ as H, VRs K as H dds dvs
def eCall (F : FN) (g : MA) : ME := fun ρ st => (g ρ st).bind fun p => F p.1 p.2
def eCallD (F : FN) (dds : List D) (g : MA) : ME := fun ρ st => (g ρ st).bind fun p => F (p.1 ++ dds) p.2
section
variable {X : Cx} {cad : Cad} {e a b c : Expr} {f h : ME} {g : MA} {pos p apos : Pos} {es : List Expr} {x : Str} {k : Nat} {F : FN} {dds : List D}
theorem ie_callD (G : FnFact X.prog X.w X.K X.mg X.base cad x k dds F) (hr : Room k X.A) (hg : Gl X x) (ha : IA X cad (e :: es) g) (hdb : (x == ("__debug__" : Str)) = false := by decide)
    (he : starEach (e :: es) X.env = (false, eval e X.env) :: starEach es X.env := by rfl) (hpl : (backTo pos (starEach es X.env)).any (·.1) = false := by rfl) : IE X cad (.Call (.Name x p) (e :: es) [] pos) (eCallD F dds g) := by
  obtain ⟨fa, fd, ps, dvs, dus, G, hm, hk, hb, hd, hv⟩ := G.ex
  refine pe_weak (pe_call (E := E0) G hr hg hm hk hb hd pass0 ha hdb he hpl) fun σ H Q => ?_
  rintro ⟨as, st, ρ, d, st', R, E, q, P⟩
  obtain ⟨⟨ys, st1⟩, e1, q⟩ := bind_some q
  exact tIA_run R E e1 fun as1 H1 vs x1 R1 E1 r1 => ⟨as1, st1, ys ++ dds, d, st', R1, r1.append (hv as1 H1), q, P.ext x1⟩
theorem ie_call (G : FnFact X.prog X.w X.K X.mg X.base cad x k [] F) (hr : Room k X.A) (hg : Gl X x) (ha : IA X cad (e :: es) g) (hdb : (x == ("__debug__" : Str)) = false := by decide)
    (he : starEach (e :: es) X.env = (false, eval e X.env) :: starEach es X.env := by rfl) (hpl : (backTo pos (starEach es X.env)).any (·.1) = false := by rfl) : IE X cad (.Call (.Name x p) (e :: es) [] pos) (eCall F g) := by
  have h := ie_callD G hr hg ha hdb he hpl (p := p)
  refine pe_weak h fun σ H Q => ?_
  rintro ⟨as, st, ρ, d, st', R, E, q, P⟩
  refine ⟨as, st, ρ, d, st', R, E, ?_, P⟩
  unfold eCallD
  simp only [List.append_nil]
  exact q
theorem ie_callD0 (G : FnFact X.prog X.w X.K X.mg X.base cad x k dds F) (hr : Room k X.A) (hg : Gl X x) (hdb : (x == ("__debug__" : Str)) = false := by decide) : IE X cad (.Call (.Name x p) [] [] pos) (eCallD F dds aNil) := by
  obtain ⟨fa, fd, ps, dvs, dus, G, hm, hk, hb, hd, hv⟩ := G.ex
  refine pe_weak (pe_call0 (E := E0) G hr hg hm hk hb hd pass0 hdb) fun σ H Q => ?_
  rintro ⟨as, st, ρ, d, st', R, E, q, P⟩
  exact ⟨as, st, dds, d, st', R, hv as H, q, P⟩
theorem ie_call0 (G : FnFact X.prog X.w X.K X.mg X.base cad x k [] F) (hr : Room k X.A) (hg : Gl X x) (hdb : (x == ("__debug__" : Str)) = false := by decide) : IE X cad (.Call (.Name x p) [] [] pos) (eCall F aNil) := ie_callD0 G hr hg hdb

/-! ### built-ins -/
def CallD (K : PySem.W.Frag) (cad : Cad) (r : List V → Hp → VK → Prop) (o : FN) : Prop :=
  ∀ (as : List Addr) (st : Sto) (H : Hp) (ds : List D) (vs : List V) (d : D) (st' : Sto) (Q : VK), Rel K cad as st H → VRs K as H ds vs → o ds st = some (d, st') → Post K cad as H st' d Q → r vs H Q
theorem CallD.or1 {K : PySem.W.Frag} {r r' : List V → Hp → VK → Prop} {o : FN} (h : CallD K cad r o) : CallD K cad (fun x H Q => r x H Q ∨ r' x H Q) o := fun as st H ds vs d st' Q R r1 e P => .inl (h as st H ds vs d st' Q R r1 e P)
theorem ie_callB {id : String} {r : List V → Hp → VK → Prop} {o : FN} (hd : CallD X.K cad r o) (hc : CallR X (.builtin id) r) (hg : Gl X x) (hm : X.mg x = none) (hv : bootBuiltins x = some (.builtin id)) (ha : IA X cad (e :: es) g)
    (hn : x ≠ "__name__" := by decide) (hdb : (x == ("__debug__" : Str)) = false := by decide) (he : starEach (e :: es) X.env = (false, eval e X.env) :: starEach es X.env := by rfl) (hpl : (backTo pos (starEach es X.env)).any (·.1) = false := by rfl) :
    IE X cad (.Call (.Name x p) (e :: es) [] pos) (eCall o g) := by
  refine pe_weak (pe_callB hc hg hm hv ha hn hdb he hpl) fun σ H Q => ?_
  rintro ⟨as, st, ρ, d, st', R, E, q, P⟩
  obtain ⟨⟨ys, st1⟩, e1, q⟩ := bind_some q
  exact tIA_run R E e1 fun as1 H1 vs x1 R1 E1 r1 => hd as1 st1 H1 ys vs d st' Q R1 r1 q (P.ext x1)
theorem ie_callTy {T : String} {r : List V → Hp → VK → Prop} {o : FN} (hd : CallD X.K cad r o) (hc : CallR X (.type T) r) (hg : Gl X x) (hm : X.mg x = none) (hv : bootBuiltins x = some (.type T)) (ha : IA X cad (e :: es) g)
    (hn : x ≠ "__name__" := by decide) (hdb : (x == ("__debug__" : Str)) = false := by decide) (he : starEach (e :: es) X.env = (false, eval e X.env) :: starEach es X.env := by rfl) (hpl : (backTo pos (starEach es X.env)).any (·.1) = false := by rfl) :
    IE X cad (.Call (.Name x p) (e :: es) [] pos) (eCall o g) := by
  refine pe_weak (pe_callTy hc hg hm hv ha hn hdb he hpl) fun σ H Q => ?_
  rintro ⟨as, st, ρ, d, st', R, E, q, P⟩
  obtain ⟨⟨ys, st1⟩, e1, q⟩ := bind_some q
  exact tIA_run R E e1 fun as1 H1 vs x1 R1 E1 r1 => hd as1 st1 H1 ys vs d st' Q R1 r1 q (P.ext x1)
/-- one value in, one out, the store as it is -/
def o1 (o : D → Sto → Option D) : FN := fun ds st => match ds with
  | [x] => (o x st).map fun d => (d, st)
  | _ => none
theorem cd1 {K : PySem.W.Frag} {r : List V → Hp → VK → Prop} {o : D → Sto → Option D} (h : ∀ (as : List Addr) (st : Sto) (H : Hp) (x : D) (v : V) (d : D) (Q : VK), Rel K cad as st H → VR K as H x v → o x st = some d → Post K cad as H st d Q → r [v] H Q) : CallD K cad r (o1 o) := by
  intro as st H ds vs d st' Q R r1 e P
  match ds, r1, e with
  | [x], .cons r2 .nil, e =>
    obtain ⟨d', e1, e2⟩ := map_some e
    obtain ⟨rfl, rfl⟩ := Prod.mk.inj e2
    exact h as st H x _ d' Q R r2 e1 P
def lenO (x : D) (st : Sto) : Option D := match x with
  | .str l => if l.length ≤ LIM then some (.int l.length) else none
  | .tup ds => some (.int ds.length)
  | .ref k => match rdL st k with
    | some ds => some (.int ds.length)
    | none => (myD st k).map fun kvs => .int kvs.length
  | _ => none
def rLenA (K : PySem.W.Frag) : List V → Hp → VK → Prop := fun xs H Q => (∃ x n, xs = [x] ∧ LenV K x H n ∧ Q (.int n) H) ∨ ∃ a kvs, xs = [V.ref a] ∧ H a = some (.dK kvs) ∧ Q (.int kvs.length) H
theorem cr_lenA : CallR X (.builtin "len") (rLenA X.K) := call_len.or call_lenD
theorem KVR.length {K : PySem.W.Frag} {as : List Addr} {H : Hp} {kvs : List (Key × D)} {xs : List (Key × V)} (r : KVR K as H kvs xs) : kvs.length = xs.length := Paired.length r
theorem cd_len {K : PySem.W.Frag} : CallD K cad (rLenA K) (o1 lenO) := cd1 fun as st H x v d Q R r e P => by
  cases r with
  | @str l hl =>
    simp only [lenO] at e
    split at e
    · rename_i hz
      cases e
      refine .inl ⟨_, l.length, rfl, ⟨?_, ?_⟩, P.now R (.int _)⟩
      · rw [mkS_len]
        exact lim_ok hz
      · rw [mkS_len]
    · cases e
  | @tup a xs ds hs rs =>
    cases e
    exact .inl ⟨_, ds.length, rfl, .inr ⟨xs, hs, rs.length⟩, P.now R (.int _)⟩
  | @ref n a ha =>
    simp only [lenO] at e
    split at e
    · rename_i ds e0
      cases e
      obtain ⟨xs, hs, rs⟩ := R.rdL e0 ha
      exact .inl ⟨_, ds.length, rfl, .inl ⟨xs, hs, rs.length⟩, P.now R (.int _)⟩
    · obtain ⟨kvs, e1, rfl⟩ := map_some e
      obtain ⟨xs, hs, rs⟩ := R.myD e1 ha
      refine .inr ⟨a, xs, rfl, hs, ?_⟩
      have h2 := P.now R (.int _)
      rw [rs.length] at h2
      exact h2
  | _ => cases e
theorem ie_len (hg : Gl X "len") (hm : X.mg "len" = none) (ha : IA X cad (e :: es) g) (he : starEach (e :: es) X.env = (false, eval e X.env) :: starEach es X.env := by rfl) (hpl : (backTo pos (starEach es X.env)).any (·.1) = false := by rfl) :
    IE X cad (.Call (.Name "len" p) (e :: es) [] pos) (eCall (o1 lenO) g) := ie_callB cd_len cr_lenA hg hm (by decide +kernel) ha (by decide) (by decide) he hpl
def absO (x : D) (_ : Sto) : Option D := match x with
  | .int i => some (.int (if i < 0 then -i else i))
  | _ => none
theorem cd_abs {K : PySem.W.Frag} : CallD K cad (fun xs H Q => ∃ i, xs = [V.int i] ∧ Q (.int (if i < 0 then -i else i)) H) (o1 absO) := cd1 fun as st H x v d Q R r e P => by
  cases r with
  | int i => cases e; exact ⟨i, rfl, P.now R (.int _)⟩
  | _ => cases e
theorem ie_abs (hg : Gl X "abs") (hm : X.mg "abs" = none) (ha : IA X cad (e :: es) g) (he : starEach (e :: es) X.env = (false, eval e X.env) :: starEach es X.env := by rfl) (hpl : (backTo pos (starEach es X.env)).any (·.1) = false := by rfl) :
    IE X cad (.Call (.Name "abs" p) (e :: es) [] pos) (eCall (o1 absO) g) := ie_callB cd_abs call_abs hg hm (by decide +kernel) ha (by decide) (by decide) he hpl
def intO (x : D) (_ : Sto) : Option D := match x with
  | .int i => some (.int i)
  | .bl k => some (.int (if k then 1 else 0))
  | _ => none
theorem cd_int {K : PySem.W.Frag} : CallD K cad (fun xs H Q => (∃ i, xs = [V.int i] ∧ Q (.int i) H) ∨ ∃ k, xs = [V.bl k] ∧ Q (.int (if k then 1 else 0)) H) (o1 intO) := cd1 fun as st H x v d Q R r e P => by
  cases r with
  | int i => cases e; exact .inl ⟨i, rfl, P.now R (.int _)⟩
  | bl i => cases e; exact .inr ⟨i, rfl, P.now R (.int _)⟩
  | _ => cases e
theorem ie_toInt (hg : Gl X "int") (hm : X.mg "int" = none) (ha : IA X cad (e :: es) g) (he : starEach (e :: es) X.env = (false, eval e X.env) :: starEach es X.env := by rfl) (hpl : (backTo pos (starEach es X.env)).any (·.1) = false := by rfl) :
    IE X cad (.Call (.Name "int" p) (e :: es) [] pos) (eCall (o1 intO) g) := ie_callTy cd_int call_int1 hg hm (by decide +kernel) ha (by decide) (by decide) he hpl
/-- all, any of a list of truths -/
def blsO : List D → Option (List Bool)
  | [] => some []
  | .bl b :: r => (blsO r).map fun s => b :: s
  | _ => none
theorem blsO_to {K : PySem.W.Frag} {as : List Addr} {H : Hp} : ∀ {ds : List D} {vs : List V} {bs : List Bool}, VRs K as H ds vs → blsO ds = some bs → vs = bs.map V.bl
  | _, _, _, .nil, e => by cases e; rfl
  | d :: ds, v :: vs, bs, .cons r t, e => by
    cases r with
    | bl b =>
      obtain ⟨s, e1, rfl⟩ := map_some e
      rw [blsO_to t e1]
      rfl
    | _ => cases e
def allO (x : D) (st : Sto) : Option D := match x with
  | .ref k => ((rdL st k).bind blsO).map fun bs => .bl (bs.all id)
  | _ => none
def anyO (x : D) (st : Sto) : Option D := match x with
  | .ref k => ((rdL st k).bind blsO).map fun bs => .bl (bs.any id)
  | _ => none
theorem cd_all {K : PySem.W.Frag} : CallD K cad (rAll K) (o1 allO) := cd1 fun as st H x v d Q R r e P => by
  cases r with
  | @ref n a ha =>
    obtain ⟨bs, e1, rfl⟩ := map_some e
    obtain ⟨ds, e2, e3⟩ := bind_some e1
    obtain ⟨xs, hs, rs⟩ := R.rdL e2 ha
    rw [blsO_to rs e3] at hs
    exact ⟨a, bs, rfl, hs, P.now R (.bl _)⟩
  | _ => cases e
theorem cd_any {K : PySem.W.Frag} : CallD K cad (rAny K) (o1 anyO) := cd1 fun as st H x v d Q R r e P => by
  cases r with
  | @ref n a ha =>
    obtain ⟨bs, e1, rfl⟩ := map_some e
    obtain ⟨ds, e2, e3⟩ := bind_some e1
    obtain ⟨xs, hs, rs⟩ := R.rdL e2 ha
    rw [blsO_to rs e3] at hs
    exact ⟨a, bs, rfl, hs, P.now R (.bl _)⟩
  | _ => cases e
theorem ie_all (hc : X.calm = true) (hg : Gl X "all") (hm : X.mg "all" = none) (ha : IA X cad (e :: es) g) (he : starEach (e :: es) X.env = (false, eval e X.env) :: starEach es X.env := by rfl) (hpl : (backTo pos (starEach es X.env)).any (·.1) = false := by rfl) :
    IE X cad (.Call (.Name "all" p) (e :: es) [] pos) (eCall (o1 allO) g) := ie_callB cd_all (cr_all hc) hg hm (by decide +kernel) ha (by decide) (by decide) he hpl
theorem ie_any (hc : X.calm = true) (hg : Gl X "any") (hm : X.mg "any" = none) (ha : IA X cad (e :: es) g) (he : starEach (e :: es) X.env = (false, eval e X.env) :: starEach es X.env := by rfl) (hpl : (backTo pos (starEach es X.env)).any (·.1) = false := by rfl) :
    IE X cad (.Call (.Name "any" p) (e :: es) [] pos) (eCall (o1 anyO) g) := ie_callB cd_any (cr_any hc) hg hm (by decide +kernel) ha (by decide) (by decide) he hpl
/-- the text of a number -/
def sgnI (i : Int) : List Nat := (toString i).toList.map Char.toNat
theorem okS_chars (l : List Char) : okS (l.map Char.toNat) = true := okS_of fun c hc => by
  obtain ⟨z, _, rfl⟩ := List.mem_map.mp hc
  have h := z.valid
  show z.toNat < 1114112
  have h2 : z.toNat = z.val.toNat := rfl
  rw [h2]
  rcases h with h | h
  · omega
  · omega
def strO (x : D) (_ : Sto) : Option D := match x with
  | .int i => if i.natAbs.log2 < 1920 then some (.str (sgnI i)) else none
  | _ => none
theorem cd_str {K : PySem.W.Frag} : CallD K cad (fun xs H Q => ∃ i, xs = [V.int i] ∧ i.natAbs.log2 < 1920 ∧ Q (.str (toString i)) H) (o1 strO) := cd1 fun as st H x v d Q R r e P => by
  cases r with
  | int i =>
    simp only [strO] at e
    split at e
    · rename_i hz
      cases e
      refine ⟨i, rfl, hz, ?_⟩
      have h1 : (Str.ofString (toString i)) = mkS (sgnI i) := by
        rw [← mkS_of (Str.ofString (toString i))]
        congr 1
        exact TL.tl_ofString _
      show Q (.str (Str.ofString (toString i))) H
      rw [h1]
      exact P.now R (.str (okS_chars _))
    · cases e
  | _ => cases e
theorem ie_toStr (hg : Gl X "str") (hm : X.mg "str" = none) (ha : IA X cad (e :: es) g) (he : starEach (e :: es) X.env = (false, eval e X.env) :: starEach es X.env := by rfl) (hpl : (backTo pos (starEach es X.env)).any (·.1) = false := by rfl) :
    IE X cad (.Call (.Name "str" p) (e :: es) [] pos) (eCall (o1 strO) g) := ie_callTy cd_str call_str_int hg hm (by decide +kernel) ha (by decide) (by decide) he hpl
/-- list(x), tuple(x) -/
def listF : FN := fun ds st => match ds with
  | [.ref k] => (rdL st k).map fun xs => (.ref st.length, st ++ [.lst xs])
  | [.tup xs] => some (.ref st.length, st ++ [.lst xs])
  | _ => none
theorem cd_list {K : PySem.W.Frag} : CallD K cad (fun xs H Q => ∃ p ys, xs = [V.ref p] ∧ (SqL K H p ys ∨ SqT K H p ys) ∧ ∀ l, H l = none → Q (.ref l) (upd H l (.lst ys))) listF := by
  intro as st H ds vs d st' Q R r1 e P
  cases r1 with
  | nil => cases e
  | cons r2 t =>
    cases t with
    | cons _ _ => cases r2 <;> cases e
    | nil =>
      cases r2 with
      | @tup a xs es hs rs =>
        cases e
        exact ⟨a, xs, rfl, .inr hs, fun p hp => P.lst R rs hp⟩
      | @ref n a ha =>
        obtain ⟨ds, e1, e2⟩ := map_some e
        cases e2
        obtain ⟨xs, hs, rs⟩ := R.rdL e1 ha
        exact ⟨a, xs, rfl, .inl hs, fun p hp => P.lst R rs hp⟩
      | _ => cases e
theorem ie_toList (hg : Gl X "list") (hm : X.mg "list" = none) (ha : IA X cad (e :: es) g) (he : starEach (e :: es) X.env = (false, eval e X.env) :: starEach es X.env := by rfl) (hpl : (backTo pos (starEach es X.env)).any (·.1) = false := by rfl) :
    IE X cad (.Call (.Name "list" p) (e :: es) [] pos) (eCall listF g) := ie_callTy cd_list call_list_of hg hm (by decide +kernel) ha (by decide) (by decide) he hpl
def tupleO (x : D) (st : Sto) : Option D := match x with
  | .ref k => (rdL st k).map fun xs => .tup xs
  | .tup xs => some (.tup xs)
  | _ => none
theorem cd_tuple {K : PySem.W.Frag} : CallD K cad (fun xs H Q => ∃ p ys, xs = [V.ref p] ∧ ((SqL K H p ys ∧ ∀ l, H l = none → Q (.ref l) (upd H l (.tup ys))) ∨ (SqT K H p ys ∧ Q (.ref p) H))) (o1 tupleO) := cd1 fun as st H x v d Q R r e P => by
  cases r with
  | @tup a xs es hs rs =>
    cases e
    exact ⟨a, xs, rfl, .inr ⟨hs, P.now R (.tup hs rs)⟩⟩
  | @ref n a ha =>
    obtain ⟨ds, e1, e2⟩ := map_some e
    cases e2
    obtain ⟨xs, hs, rs⟩ := R.rdL e1 ha
    exact ⟨a, xs, rfl, .inl ⟨hs, fun p hp => P.tup R rs hp⟩⟩
  | _ => cases e
theorem ie_toTuple (hg : Gl X "tuple") (hm : X.mg "tuple" = none) (ha : IA X cad (e :: es) g) (he : starEach (e :: es) X.env = (false, eval e X.env) :: starEach es X.env := by rfl) (hpl : (backTo pos (starEach es X.env)).any (·.1) = false := by rfl) :
    IE X cad (.Call (.Name "tuple" p) (e :: es) [] pos) (eCall (o1 tupleO) g) := ie_callTy cd_tuple call_tuple_of hg hm (by decide +kernel) ha (by decide) (by decide) he hpl

/-! ### isinstance -/
inductive Ty where
  | non | bl | int | str | tup | lst | dic
  deriving DecidableEq
def Ty.name : Ty → String
  | .non => "NoneType"
  | .bl => "bool"
  | .int => "int"
  | .str => "str"
  | .tup => "tuple"
  | .lst => "list"
  | .dic => "dict"
def Ty.isa (t n : Ty) : Bool := decide (t = n) || (decide (t = .bl) && decide (n = .int))
theorem Ty.kit (t n : Ty) (h : n ≠ .non) : kitB t.name n.name = some (t.isa n) := by
  cases n with
  | non => exact absurd rfl h
  | bl => cases t <;> decide +kernel
  | int => cases t <;> decide +kernel
  | str => cases t <;> decide +kernel
  | tup => cases t <;> decide +kernel
  | lst => cases t <;> decide +kernel
  | dic => cases t <;> decide +kernel
def tyD (st : Sto) : D → Option Ty
  | .non => some .non
  | .bl _ => some .bl
  | .int _ => some .int
  | .str _ => some .str
  | .tup _ => some .tup
  | .ref k => match st[k]? with
    | some (.lst _) => some .lst
    | some (.fz _) => some .lst
    | some (.dic _) => some .dic
    | _ => none
theorem tyD_ok {K : PySem.W.Frag} {as : List Addr} {st : Sto} {H : Hp} {d : D} {v : V} {t : Ty} (R : Rel K cad as st H) (r : VR K as H d v) (e : tyD st d = some t) : TyX K H v (.type t.name) := by
  have frL : ∀ {a : Addr} {xs : List V}, SqL K H a xs → TyX K H (.ref a) (.type "list") := fun {a xs} h => by
    rcases h with (h | ⟨o, h⟩) | ⟨o, its, n, hk, hc, _⟩
    · exact .base (.lst h)
    · exact .base (.frz h)
    · exact .kList hk hc
  cases r with
  | non => cases e; exact .base .non
  | bl b => cases e; exact .base (.bl b)
  | int i => cases e; exact .base (.int i)
  | str h => cases e; exact .base (.str _)
  | @tup a xs ds hs rs =>
    cases e
    rcases hs with (h | ⟨o, h⟩) | ⟨o, its, n, hk, hc, _⟩
    · exact .base (.tup h)
    · exact .fTuple h
    · exact .kTuple hk hc
  | @ref n a ha =>
    simp only [tyD] at e
    split at e
    · rename_i ds e1
      cases e
      obtain ⟨xs, q, _⟩ := R.ob n _ a e1 ha
      exact .base (.lst q)
    · rename_i ds e1
      cases e
      obtain ⟨xs, hs, _⟩ := R.rdL (ds := ds) (by unfold rdL; rw [e1]) ha
      exact frL hs
    · rename_i ds e1
      cases e
      obtain ⟨xs, q, _⟩ := R.ob n _ a e1 ha
      exact .base (.dK q)
    · cases e
def isiO (ns : List Ty) : D → Sto → Option (D × Sto) := fun x st => (tyD st x).map fun t => (.bl (ns.any fun n => t.isa n), st)
theorem kitAny_of {K : PySem.W.Frag} {t : Ty} : ∀ {ns : List Ty}, (∀ n ∈ ns, n ≠ .non) → PySem.W.kitAny K (.type t.name) (ns.map fun n => Value.type n.name) = some (ns.any fun n => t.isa n)
  | [], _ => kitAny_nil
  | n :: r, h => by
    refine kitAny_cons (kit_ty (Ty.kit t n (h n (List.mem_cons_self ..)))) (fun hb => ?_) (fun hb => ?_)
    · rw [kitAny_of fun z hz => h z (List.mem_cons_of_mem _ hz), List.any_cons, hb]
      rfl
    · rw [List.any_cons, hb]
      rfl
/-- isinstance(a, T) -/
theorem ie_isi {n : Ty} {y : Str} {p2 : Pos} (hn : n ≠ .non) (hg : Gl X "isinstance") (hm : X.mg "isinstance" = none) (ha : IE X cad a f) (hb : PE X (.Name y p2) (tC (.ty n.name)))
    (hs : starEach [a, .Name y p2] X.env = (false, eval a X.env) :: starEach [.Name y p2] X.env := by rfl) (hs2 : starEach [.Name y p2] X.env = (false, eval (.Name y p2) X.env) :: starEach [] X.env := by rfl)
    (hpl : (backTo pos (starEach [.Name y p2] X.env)).any (·.1) = false := by rfl) : IE X cad (.Call (.Name "isinstance" p) [a, .Name y p2] [] pos) (eUn (isiO [n]) f) := by
  refine pe_weak (pe_callB call_isi hg hm (by decide +kernel) (pa_cons ha (pa_cons hb pa_nil hs2) hs) (by decide) (by decide) hs hpl) fun σ H Q => ?_
  rintro ⟨as, st, ρ, d, st', R, E, q, P⟩
  obtain ⟨⟨x, st1⟩, e1, q⟩ := bind_some q
  obtain ⟨t, e2, e3⟩ := map_some q
  obtain ⟨rfl, rfl⟩ := Prod.mk.inj e3
  refine tI_run R E e1 fun as1 H1 v x1 R1 E1 r1 => ⟨v, .ty n.name, _, _, t.isa n, rfl, .ty _, tyD_ok R1 r1 e2, kit_ty (Ty.kit t n hn), ?_⟩
  have h2 := (P.ext x1).now R1 (.bl _)
  simpa using h2
/-- isinstance(a, (T, U)) -/
theorem ie_isi2 {n m : Ty} {y z : Str} {p2 p3 p4 : Pos} {k : Nat} (hn : n ≠ .non) (hm' : m ≠ .non) (hg : Gl X "isinstance") (hm : X.mg "isinstance" = none) (ha : IE X cad a f) (hb : PE X (.Name y p2) (tC (.ty n.name))) (hc : PE X (.Name z p3) (tC (.ty m.name)))
    (hs : starEach [a, .Tuple [.Name y p2, .Name z p3] k p4] X.env = (false, eval a X.env) :: starEach [.Tuple [.Name y p2, .Name z p3] k p4] X.env := by rfl)
    (hs2 : starEach [.Tuple [.Name y p2, .Name z p3] k p4] X.env = (false, eval (.Tuple [.Name y p2, .Name z p3] k p4) X.env) :: starEach [] X.env := by rfl)
    (hs3 : starEach [.Name y p2, .Name z p3] X.env = (false, eval (.Name y p2) X.env) :: starEach [.Name z p3] X.env := by rfl) (hs4 : starEach [.Name z p3] X.env = (false, eval (.Name z p3) X.env) :: starEach [] X.env := by rfl)
    (hpl : (backTo pos (starEach [.Tuple [.Name y p2, .Name z p3] k p4] X.env)).any (·.1) = false := by rfl) : IE X cad (.Call (.Name "isinstance" p) [a, .Tuple [.Name y p2, .Name z p3] k p4] [] pos) (eUn (isiO [n, m]) f) := by
  refine pe_weak (pe_callB call_isiT hg hm (by decide +kernel) (pa_cons ha (pa_cons (pe_tup (pa_cons hb (pa_cons hc pa_nil hs4) hs3)) pa_nil hs2) hs) (by decide) (by decide) hs hpl) fun σ H Q => ?_
  rintro ⟨as, st, ρ, d, st', R, E, q, P⟩
  obtain ⟨⟨x, st1⟩, e1, q⟩ := bind_some q
  obtain ⟨t, e2, e3⟩ := map_some q
  obtain ⟨rfl, rfl⟩ := Prod.mk.inj e3
  refine tI_run R E e1 fun as1 H1 v x1 R1 E1 r1 => ⟨(by show 2 ≤ sizeLine; decide), fun q hq => ?_⟩
  have x2 : Ext X.K as1 H1 as1 (upd H1 q (.tup [.ty n.name, .ty m.name])) := Ext.fresh hq
  refine ⟨v, q, _, _, [.type n.name, .type m.name], _, rfl, upd_same, .cons (.ty _) (.cons (.ty _) .nil), tyD_ok (R1.fresh hq) (r1.mono x2) e2, kitAny_of (ns := [n, m]) (fun z hz => ?_), ?_⟩
  · rcases List.mem_cons.mp hz with rfl | hz
    · exact hn
    · rcases List.mem_cons.mp hz with rfl | hz
      · exact hm'
      · cases hz
  · exact ((P.ext x1).ext x2).now (R1.fresh hq) (.bl _)

/-! ### methods of built-in types -/
def eBM (chk : Sto → D → Bool) (o : D → FN) (f : ME) (g : MA) : ME := fun ρ st => (f ρ st).bind fun p => if chk p.2 p.1 = true then (g ρ p.2).bind fun q => o p.1 q.1 q.2 else none
def MtD (K : PySem.W.Frag) (cad : Cad) (r : V → List V → Hp → VK → Prop) (o : D → FN) : Prop :=
  ∀ (as : List Addr) (st : Sto) (H : Hp) (x : D) (v : V) (ds : List D) (vs : List V) (d : D) (st' : Sto) (Q : VK), Rel K cad as st H → VR K as H x v → VRs K as H ds vs → o x ds st = some (d, st') → Post K cad as H st' d Q → r v vs H Q
def isL (st : Sto) : D → Bool
  | .ref k => (rdL st k).isSome
  | _ => false
def isS (_ : Sto) : D → Bool
  | .str _ => true
  | _ => false
theorem isL_ty {K : PySem.W.Frag} {as : List Addr} {st : Sto} {H : Hp} {d : D} {v : V} (R : Rel K cad as st H) (r : VR K as H d v) (e : isL st d = true) : tyV K "list" v H := by
  cases r with
  | @ref n a ha =>
    obtain ⟨ds, e1⟩ := Option.isSome_iff_exists.mp e
    obtain ⟨xs, hs, _⟩ := R.rdL e1 ha
    exact .inl ⟨rfl, xs, hs⟩
  | _ => cases e
theorem isS_ty {K : PySem.W.Frag} {as : List Addr} {st : Sto} {H : Hp} {d : D} {v : V} (r : VR K as H d v) (e : isS st d = true) : tyV K "str" v H := by
  cases r with
  | str h => rfl
  | _ => cases e
theorem ie_bm {T id : String} {name : Str} {r : V → List V → Hp → VK → Prop} {chk : Sto → D → Bool} {o : D → FN} {cpos : Pos} (hty0 : ∀ as st H d v, Rel X.K cad as st H → VR X.K as H d v → chk st d = true → tyV X.K T v H) (hd : MtD X.K cad r o)
    (pa : PlainAttrs T) (slot : Slot T name id) (hty : typeOf (.builtin id) = pure (.type "method_descriptor")) (hm : MtR X id r) (ha : IE X cad a f) (hes : IA X cad (e :: es) g)
    (hbase : attributeBase a name X.env (eval a X.env) = eval a X.env := by rfl)
    (hfew : ((backTo cpos (starEach (e :: es) X.env)).all (fun x => !x.1) && (backToKw cpos (keywordEach [] X.env)).all (fun x => x.1.isSome)
      && decide ((e :: es).length + ([] : List Keyword).length + (if ([] : List Keyword).isEmpty then 0 else 1) < 30)) = true := by rfl)
    (hline : (apos.endLine == cpos.line) = true := by rfl) (hs : starEach (e :: es) X.env = (false, eval e X.env) :: starEach es X.env := by rfl) (hplain : (backTo cpos (starEach es X.env)).any (·.1) = false := by rfl) :
    IE X cad (.Call (.Attribute a name apos) (e :: es) [] cpos) (eBM chk o f g) := by
  refine pe_weak (pe_bm pa slot hty hm ha hes hbase hfew hline hs hplain) fun σ H Q => ?_
  rintro ⟨as, st, ρ, d, st', R, E, q, P⟩
  obtain ⟨⟨x, st1⟩, e1, q⟩ := bind_some q
  simp only at q
  split at q
  · rename_i hc
    obtain ⟨⟨ys, st2⟩, e2, q⟩ := bind_some q
    exact tI_run R E e1 fun as1 H1 v x1 R1 E1 r1 => ⟨hty0 _ _ _ _ _ R1 r1 hc, tIA_run R1 E1 e2 fun as2 H2 vs x2 R2 E2 r2 => hd as2 st2 H2 x v ys vs d st' Q R2 (r1.mono x2) r2 q (P.ext (x1.trans x2))⟩
  · cases q
theorem ie_bm0 {T id : String} {name : Str} {r : V → List V → Hp → VK → Prop} {chk : Sto → D → Bool} {o : D → FN} {cpos : Pos} (hty0 : ∀ as st H d v, Rel X.K cad as st H → VR X.K as H d v → chk st d = true → tyV X.K T v H) (hd : MtD X.K cad r o)
    (pa : PlainAttrs T) (slot : Slot T name id) (hty : typeOf (.builtin id) = pure (.type "method_descriptor")) (hm : MtR X id r) (ha : IE X cad a f)
    (hbase : attributeBase a name X.env (eval a X.env) = eval a X.env := by rfl) (hline : (apos.endLine == cpos.line) = true := by rfl) :
    IE X cad (.Call (.Attribute a name apos) [] [] cpos) (eBM chk o f aNil) := by
  refine pe_weak (pe_bm0 pa slot hty hm ha hbase hline) fun σ H Q => ?_
  rintro ⟨as, st, ρ, d, st', R, E, q, P⟩
  obtain ⟨⟨x, st1⟩, e1, q⟩ := bind_some q
  simp only at q
  split at q
  · rename_i hc
    obtain ⟨⟨ys, st2⟩, e2, q⟩ := bind_some q
    cases e2
    exact tI_run R E e1 fun as1 H1 v x1 R1 E1 r1 => ⟨hty0 _ _ _ _ _ R1 r1 hc, hd as1 st1 H1 x v [] [] d st' Q R1 r1 .nil q (P.ext x1)⟩
  · cases q
/-- a list of ours changed -/
theorem Post.set {K : PySem.W.Frag} {as : List Addr} {st : Sto} {H : Hp} {n : Nat} {a : Addr} {ds ds' : List D} {xs : List V} {d : D} {v : V} {Q : VK} (P : Post K cad as H (st.set n (.lst ds')) d Q) (R : Rel K cad as st H) (e : myL st n = some ds) (ha : as[n]? = some a)
    (r : VRs K as H ds' xs) (rv : VR K as H d v) : Q v (upd H a (.lst xs)) := by
  have e1 := myL_at e
  obtain ⟨u, q, q1, q2⟩ := (R.ob n _ a e1 ha).there rfl
  have x : Ext K as H as (upd H a (.lst xs)) := ⟨⟨[], by simp⟩, fun b ys h => sqT_write q q1 q2 h⟩
  obtain ⟨R', _⟩ := R.write (u := .lst xs) (o' := .lst ds') e1 ha rfl rfl ⟨xs, upd_same, r.mono x⟩
  exact P as _ v x R' (rv.mono x)
def appM : D → FN := fun x ds st => match x, ds with
  | .ref k, [d] => match myL st k with
    | some xs => if xs.length < LIM then some (.non, st.set k (.lst (xs ++ [d]))) else none
    | none => none
  | _, _ => none
theorem md_app {K : PySem.W.Frag} : MtD K cad rAppend appM := by
  intro as st H x v ds vs d st' Q R r1 r2 e P
  cases r1 with
  | @ref n a ha =>
    match ds, r2, e with
    | [y], .cons r3 .nil, e =>
      simp only [appM] at e
      split at e
      · rename_i xs e1
        split at e
        · rename_i hl
          cases e
          obtain ⟨ws, q, rs⟩ := R.myL e1 ha
          refine ⟨a, ws, _, rfl, rfl, q, ?_, P.set R e1 ha (rs.append (.cons r3 .nil)) .non⟩
          rw [← rs.length]
          exact lim_lt hl
        · cases e
      · cases e
  | _ => cases e
theorem ie_append {cpos : Pos} (ha : IE X cad a f) (hes : IA X cad (e :: es) g) (hbase : attributeBase a "append" X.env (eval a X.env) = eval a X.env := by rfl)
    (hfew : ((backTo cpos (starEach (e :: es) X.env)).all (fun x => !x.1) && (backToKw cpos (keywordEach [] X.env)).all (fun x => x.1.isSome)
      && decide ((e :: es).length + ([] : List Keyword).length + (if ([] : List Keyword).isEmpty then 0 else 1) < 30)) = true := by rfl)
    (hline : (apos.endLine == cpos.line) = true := by rfl) (hs : starEach (e :: es) X.env = (false, eval e X.env) :: starEach es X.env := by rfl) (hplain : (backTo cpos (starEach es X.env)).any (·.1) = false := by rfl) :
    IE X cad (.Call (.Attribute a "append" apos) (e :: es) [] cpos) (eBM isL appM f g) :=
  ie_bm (fun _ _ _ _ _ R r e => isL_ty R r e) md_app PySem.F.plainAttrs_list PySem.F.slot_list_append PySem.F.type_list_append mt_append ha hes hbase hfew hline hs hplain
/-- sep.join(texts) -/
def strsO : List D → Option (List (List Nat))
  | [] => some []
  | .str l :: r => (strsO r).map fun s => l :: s
  | _ => none
theorem strsO_to {K : PySem.W.Frag} {as : List Addr} {H : Hp} : ∀ {ds : List D} {vs : List V} {ls : List (List Nat)}, VRs K as H ds vs → strsO ds = some ls → vs = (ls.map mkS).map V.str ∧ ∀ l ∈ ls, okS l = true
  | _, _, _, .nil, e => by
    cases e
    exact ⟨rfl, fun l h => by cases h⟩
  | d :: ds, v :: vs, bs, .cons r t, e => by
    cases r with
    | @str l hl =>
      obtain ⟨s, e1, rfl⟩ := map_some e
      obtain ⟨h1, h2⟩ := strsO_to t e1
      rw [h1]
      refine ⟨rfl, fun z hz => ?_⟩
      rcases List.mem_cons.mp hz with rfl | hz
      · exact hl
      · exact h2 z hz
    | _ => cases e
def joinD (s : List Nat) : List (List Nat) → List Nat := TL.joinL s
def joinM : D → FN := fun x ds st => match x, ds with
  | .str s, [.ref k] => ((rdL st k).bind strsO).bind fun ls => if (ls.map List.length).sum + ls.length * s.length ≤ 16000000 then some (.str (joinD s ls), st) else none
  | .str s, [.tup xs] => (strsO xs).bind fun ls => if (ls.map List.length).sum + ls.length * s.length ≤ 16000000 then some (.str (joinD s ls), st) else none
  | _, _ => none
theorem mem_joinL (s : List Nat) : ∀ (ls : List (List Nat)) (c : Nat), c ∈ TL.joinL s ls → c ∈ s ∨ ∃ l ∈ ls, c ∈ l
  | [], c, h => by cases h
  | [p], c, h => .inr ⟨p, List.mem_cons_self .., h⟩
  | p :: q :: r, c, h => by
    have h' : c ∈ p ++ (s ++ TL.joinL s (q :: r)) := h
    rcases List.mem_append.mp h' with h | h
    · exact .inr ⟨p, List.mem_cons_self .., h⟩
    · rcases List.mem_append.mp h with h | h
      · exact .inl h
      · rcases mem_joinL s (q :: r) c h with h | ⟨l, hl, hc⟩
        · exact .inl h
        · exact .inr ⟨l, List.mem_cons_of_mem _ hl, hc⟩
theorem join_to (s : List Nat) (ls : List (List Nat)) : Txt.join (mkS s) (ls.map mkS) = mkS (joinD s ls) := by
  rw [TL.join_eq, ← mkS_of (Str.join _ _)]
  congr 1
  have := TL.tl_join (mkS s) (ls.map mkS)
  rw [List.map_map] at this
  have e : (TL.tl ∘ mkS) = id := by
    funext l
    rfl
  rw [e, List.map_id] at this
  exact this
theorem md_join {K : PySem.W.Frag} : MtD K cad (fun x xs H Q => ∃ a p, ∃ ys : List Str, x = .str a ∧ xs = [.ref p] ∧ (SqL K H p (ys.map V.str) ∨ SqT K H p (ys.map V.str)) ∧ (ys.map (·.length)).sum + ys.length * a.length ≤ 16777216 ∧ Q (.str (Txt.join a ys)) H) joinM := by
  intro as st H x v ds vs d st' Q R r1 r2 e P
  have fin : ∀ {s : List Nat} {ls : List (List Nat)} {p : Addr}, okS s = true → (∀ l ∈ ls, okS l = true) → (ls.map List.length).sum + ls.length * s.length ≤ 16000000 → d = .str (joinD s ls) → st' = st → (SqL K H p ((ls.map mkS).map V.str) ∨ SqT K H p ((ls.map mkS).map V.str)) →
      ∃ a p', ∃ ys : List Str, V.str (mkS s) = .str a ∧ [V.ref p] = [.ref p'] ∧ (SqL K H p' (ys.map V.str) ∨ SqT K H p' (ys.map V.str)) ∧ (ys.map (·.length)).sum + ys.length * a.length ≤ 16777216 ∧ Q (.str (Txt.join a ys)) H := by
    intro s ls p h1 h2 h3 e1 e2 h4
    subst e1 e2
    refine ⟨mkS s, p, ls.map mkS, rfl, rfl, h4, ?_, ?_⟩
    · rw [List.map_map, List.length_map, mkS_len]
      have e : ((fun x : Str => x.length) ∘ mkS) = List.length := by
        funext l
        exact mkS_len l
      rw [e]
      omega
    · rw [join_to]
      exact P.now R (.str (okS_of fun c hc => by
        rcases mem_joinL s ls c hc with h | ⟨l, hl, hc⟩
        · exact okS_mem h1 c h
        · exact okS_mem (h2 l hl) c hc))
  cases r1 with
  | @str s hs =>
    cases r2 with
    | nil => cases e
    | cons r3 t =>
      cases t with
      | cons _ _ => cases r3 <;> cases e
      | nil =>
        cases r3 with
        | @ref n a ha =>
          obtain ⟨ls, e1, e2⟩ := bind_some e
          obtain ⟨xs, e3, e4⟩ := bind_some e1
          split at e2
          · rename_i hz
            cases e2
            obtain ⟨ws, q, rs⟩ := R.rdL e3 ha
            obtain ⟨h1, h2⟩ := strsO_to rs e4
            rw [h1] at q
            exact fin hs h2 hz rfl rfl (.inl q)
          · cases e2
        | @tup a ws xs q rs =>
          obtain ⟨ls, e1, e2⟩ := bind_some e
          split at e2
          · rename_i hz
            cases e2
            obtain ⟨h1, h2⟩ := strsO_to rs e1
            rw [h1] at q
            exact fin hs h2 hz rfl rfl (.inr q)
          · cases e2
        | _ => cases e
  | _ => cases e
theorem ie_join {cpos : Pos} (ha : IE X cad a f) (hes : IA X cad (e :: es) g) (hbase : attributeBase a "join" X.env (eval a X.env) = eval a X.env := by rfl)
    (hfew : ((backTo cpos (starEach (e :: es) X.env)).all (fun x => !x.1) && (backToKw cpos (keywordEach [] X.env)).all (fun x => x.1.isSome)
      && decide ((e :: es).length + ([] : List Keyword).length + (if ([] : List Keyword).isEmpty then 0 else 1) < 30)) = true := by rfl)
    (hline : (apos.endLine == cpos.line) = true := by rfl) (hs : starEach (e :: es) X.env = (false, eval e X.env) :: starEach es X.env := by rfl) (hplain : (backTo cpos (starEach es X.env)).any (·.1) = false := by rfl) :
    IE X cad (.Call (.Attribute a "join" apos) (e :: es) [] cpos) (eBM isS joinM f g) :=
  ie_bm (fun _ _ _ _ _ _ r e => isS_ty r e) md_join PySem.F.plainAttrs_str PySem.F.slot_str_join PySem.F.type_str_join mt_join ha hes hbase hfew hline hs hplain
end
end MP

set_option maxRecDepth 100000
/-! MP 7: statements, loops, bodies of defs. -/
namespace MP
open PySem PySem.Spec PyProof.Rows L2

/-- how a statement ends -/
inductive Fl where
  | nx
  | rt (d : D)
  | bk
  | ct
abbrev MS := Rho → Sto → Option (Fl × Rho × Sto)
def FlP (K : PySem.W.Frag) (as : List Addr) (H : Hp) (Dn : Ends) (σ : L2.St) : Fl → Prop
  | .nx => Dn.nx σ H
  | .rt d => ∀ v, VR K as H d v → Dn.rt v H
  | .bk => Dn.bk σ H
  | .ct => Dn.ct σ H
def PostS (K : PySem.W.Frag) (cad : Cad) (as : List Addr) (H : Hp) (fl : Fl) (ρ' : Rho) (st' : Sto) (Dn : Ends) : Prop :=
  ∀ (as' : List Addr) (H' : Hp) (σ' : L2.St), Ext K as H as' H' → Rel K cad as' st' H' → ER K as' H' ρ' σ' → FlP K as' H' Dn σ' fl
def tIS (K : PySem.W.Frag) (cad : Cad) (f : MS) : TS := fun Dn σ H => ∃ as st ρ fl ρ' st', Rel K cad as st H ∧ ER K as H ρ σ ∧ f ρ st = some (fl, ρ', st') ∧ PostS K cad as H fl ρ' st' Dn
def ISt (X : Cx) (cad : Cad) (s : Stmt) (f : MS) : Prop := PS X s (tIS X.K cad f)
def ISs (X : Cx) (cad : Cad) (ss : List Stmt) (f : MS) : Prop := PSs X ss (tIS X.K cad f)
theorem PostS.ext {K : PySem.W.Frag} {cad : Cad} {as as1 : List Addr} {H H1 : Hp} {fl : Fl} {ρ' : Rho} {st' : Sto} {Dn : Ends} (P : PostS K cad as H fl ρ' st' Dn) (x : Ext K as H as1 H1) : PostS K cad as1 H1 fl ρ' st' Dn := fun as' H' σ' y R E => P as' H' σ' (x.trans y) R E
theorem ps_weak {X : Cx} {s : Stmt} {t t' : TS} (h : PS X s t) (w : ∀ D σ H, t' D σ H → t D σ H) : PS X s t' := ⟨fun pins s σ H D I q => h.run pins s σ H D I (w D σ H q)⟩
theorem pss_weak {X : Cx} {s : List Stmt} {t t' : TS} (h : PSs X s t) (w : ∀ D σ H, t' D σ H → t D σ H) : PSs X s t' := ⟨fun pins s σ H D I q => h.run pins s σ H D I (w D σ H q)⟩
section
variable {X : Cx} {cad : Cad} {e a b c : Expr} {f h : ME} {t : MT} {g : MA} {u v : MS} {pos p : Pos} {s : Stmt} {ss rest : List Stmt}
theorem tIS_run {K : PySem.W.Frag} {as : List Addr} {st st' : Sto} {H : Hp} {ρ ρ' : Rho} {σ : L2.St} {fl : Fl} {Dn : Ends} (R : Rel K cad as st H) (E : ER K as H ρ σ) (e : u ρ st = some (fl, ρ', st'))
    (P : ∀ as' H' σ', Ext K as H as' H' → Rel K cad as' st' H' → ER K as' H' ρ' σ' → FlP K as' H' Dn σ' fl) : tIS K cad u Dn σ H := ⟨as, st, ρ, fl, ρ', st', R, E, e, P⟩
def sNext : MS := fun ρ st => some (.nx, ρ, st)
def sBreak : MS := fun ρ st => some (.bk, ρ, st)
def sCont : MS := fun ρ st => some (.ct, ρ, st)
def sSeq (u v : MS) : MS := fun ρ st => (u ρ st).bind fun q => match q.1 with
  | .nx => v q.2.1 q.2.2
  | _ => some q
theorem iss_nil : ISs X cad [] sNext := by
  refine pss_weak pss_nil fun Dn σ H => ?_
  rintro ⟨as, st, ρ, fl, ρ', st', R, E, q, P⟩
  cases q
  exact P as H σ .refl R E
theorem iss_one (h1 : ISt X cad s u) : ISs X cad [s] u := pss_one h1
theorem iss_cons (h1 : ISt X cad s u) (h2 : ISs X cad rest v) : ISs X cad (s :: rest) (sSeq u v) := by
  refine pss_weak (pss_cons h1 h2) fun Dn σ H => ?_
  rintro ⟨as, st, ρ, fl, ρ', st', R, E, q, P⟩
  obtain ⟨⟨fl1, ρ1, st1⟩, e1, q⟩ := bind_some q
  refine tIS_run R E e1 fun as1 H1 σ1 x1 R1 E1 => ?_
  cases fl1 with
  | nx => exact tIS_run R1 E1 q fun as2 H2 σ2 x2 R2 E2 => P as2 H2 σ2 (x1.trans x2) R2 E2
  | rt d => cases q; exact P as1 H1 σ1 x1 R1 E1
  | bk => cases q; exact P as1 H1 σ1 x1 R1 E1
  | ct => cases q; exact P as1 H1 σ1 x1 R1 E1
theorem is_pass : ISt X cad (.Pass pos) sNext := by
  refine ps_weak ps_pass fun Dn σ H => ?_
  rintro ⟨as, st, ρ, fl, ρ', st', R, E, q, P⟩
  cases q
  exact P as H σ .refl R E
theorem is_break : ISt X cad (.Break pos) sBreak := by
  refine ps_weak ps_break fun Dn σ H => ?_
  rintro ⟨as, st, ρ, fl, ρ', st', R, E, q, P⟩
  cases q
  exact P as H σ .refl R E
theorem is_cont : ISt X cad (.Continue pos) sCont := by
  refine ps_weak ps_continue fun Dn σ H => ?_
  rintro ⟨as, st, ρ, fl, ρ', st', R, E, q, P⟩
  cases q
  exact P as H σ .refl R E
theorem is_doc {x j p} : ISt X cad (.Expr (.Constant (.str x) j p) pos) sNext := by
  refine ps_weak ps_doc fun Dn σ H => ?_
  rintro ⟨as, st, ρ, fl, ρ', st', R, E, q, P⟩
  cases q
  exact P as H σ .refl R E
def sExpr (f : ME) : MS := fun ρ st => (f ρ st).map fun p => (.nx, ρ, p.2)
theorem is_expr (ha : IE X cad e f) (hs : swapsWith e none pos.line X.env = pure false := by rfl) : ISt X cad (.Expr e pos) (sExpr f) := by
  refine ps_weak (ps_expr ha hs) fun Dn σ H => ?_
  rintro ⟨as, st, ρ, fl, ρ', st', R, E, q, P⟩
  obtain ⟨⟨x, st1⟩, e1, e2⟩ := map_some q
  cases e2
  exact tI_run R E e1 fun as1 H1 v x1 R1 E1 r1 => P as1 H1 σ x1 R1 E1
def sRet (f : ME) : MS := fun ρ st => (f ρ st).map fun p => (.rt p.1, ρ, p.2)
theorem is_ret (ha : IE X cad e f) : ISt X cad (.Return (some e) pos) (sRet f) := by
  refine ps_weak (ps_ret ha) fun Dn σ H => ?_
  rintro ⟨as, st, ρ, fl, ρ', st', R, E, q, P⟩
  obtain ⟨⟨x, st1⟩, e1, e2⟩ := map_some q
  cases e2
  exact tI_run R E e1 fun as1 H1 v x1 R1 E1 r1 => P as1 H1 σ x1 R1 E1 v r1
def sRetN : MS := fun ρ st => some (.rt .non, ρ, st)
theorem is_retN : ISt X cad (.Return none pos) sRetN := by
  refine ps_weak ps_retN fun Dn σ H => ?_
  rintro ⟨as, st, ρ, fl, ρ', st', R, E, q, P⟩
  cases q
  exact P as H σ .refl R E .non .non
def sIf (t : MT) (u v : MS) : MS := fun ρ st => (t ρ st).bind fun p => if p.1 = true then u ρ p.2 else v ρ p.2
theorem is_if {x y : List Stmt} (hc : IT X cad c t) (ha : ISs X cad x u) (hb : ISs X cad y v) : ISt X cad (.If c x y pos) (sIf t u v) := by
  refine ps_weak (ps_if hc ha hb) fun Dn σ H => ?_
  rintro ⟨as, st, ρ, fl, ρ', st', R, E, q, P⟩
  obtain ⟨⟨k, st1⟩, e1, q⟩ := bind_some q
  refine tIT_run R E e1 fun as1 H1 x1 R1 E1 => ?_
  cases k with
  | true => exact iteT (tIS_run R1 E1 q fun as2 H2 σ2 x2 R2 E2 => P as2 H2 σ2 (x1.trans x2) R2 E2)
  | false => exact iteF (tIS_run R1 E1 q fun as2 H2 σ2 x2 R2 E2 => P as2 H2 σ2 (x1.trans x2) R2 E2)
/-! ### names bound -/
def sSet (i : Nat) (f : ME) : MS := fun ρ st => (f ρ st).map fun p => (.nx, ρ.set i (some p.1), p.2)
theorem sSet_to {K : PySem.W.Frag} {i : Nat} {Dn : Ends} {σ : L2.St} {H : Hp} (hw : tIS K cad (sSet i f) Dn σ H) : tAsg (tI K cad f) (gName i) Dn σ H := by
  obtain ⟨as, st, ρ, fl, ρ', st', R, E, q, P⟩ := hw
  obtain ⟨⟨x, st1⟩, e1, e2⟩ := map_some q
  cases e2
  exact tI_run R E e1 fun as1 H1 v x1 R1 E1 r1 => P as1 H1 _ x1 R1 (E1.set r1)
theorem is_set {i : Nat} {x : Str} {p : Pos} (hN : X.N.Nodup) (hi : X.N[i]? = some x) (hx : Loc X.env.scope x) (ha : IE X cad e f) (hs : swapsWith e (some (.Name x p)) pos.line X.env = pure false := by rfl)
    (hf : X.fn x = true ∨ X.env.scope.names.lookup x = some .local := by first | exact .inl rfl | exact .inr rfl | assumption) : ISt X cad (.Assign [.Name x p] e pos) (sSet i f) :=
  ps_weak (ps_set hN hi hx ha hs hf) fun _ _ _ hw => sSet_to hw
/-- a, b = x, y -/
def sPar2 (i j : Nat) (g : MA) : MS := fun ρ st => (g ρ st).bind fun p => match p.1 with
  | [x, y] => some (.nx, (ρ.set i (some x)).set j (some y), p.2)
  | _ => none
theorem is_par2 {i j : Nat} {x y : Str} {px py pt : Pos} {kt k2 : Nat} {pt2 : Pos} (hc : X.calm = true) (hN : X.N.Nodup) (hi : X.N[i]? = some x) (hj : X.N[j]? = some y) (hij : i ≠ j)
    (hx : X.env.scope.names.lookup x = some .local) (hy : X.env.scope.names.lookup y = some .local) (ha : IA X cad [a, b] g)
    (hw : swappedStores [.Tuple [.Name x px, .Name y py] kt pt] (.Tuple [a, b] k2 pt2) X.env = pure (some [x, y]))
    (hs : swapsWithSole [.Tuple [.Name x px, .Name y py] kt pt] (.Tuple [a, b] k2 pt2) pos.line X.env = pure false := by rfl) :
    ISt X cad (.Assign [.Tuple [.Name x px, .Name y py] kt pt] (.Tuple [a, b] k2 pt2) pos) (sPar2 i j g) := by
  refine ps_weak (ps_par hc hN hi hj hij hx hy ha hw hs) fun Dn σ H => ?_
  rintro ⟨as, st, ρ, fl, ρ', st', R, E, q, P⟩
  obtain ⟨⟨ys, st1⟩, e1, q⟩ := bind_some q
  refine tIA_run R E e1 fun as1 H1 vs x1 R1 E1 r1 => ?_
  match ys, r1, q with
  | [_, _], .cons (v := v1) q1 (.cons (v := v2) q2 .nil), q =>
    cases q
    exact ⟨v1, v2, rfl, P as1 H1 _ x1 R1 ((E1.set q1).set q2)⟩
def sPar3 (i j k : Nat) (g : MA) : MS := fun ρ st => (g ρ st).bind fun p => match p.1 with
  | [x, y, z] => some (.nx, ((ρ.set i (some x)).set j (some y)).set k (some z), p.2)
  | _ => none
theorem is_par3 {i j l : Nat} {d' : Expr} {x y z : Str} {px py pz pt : Pos} {kt k2 : Nat} {pt2 : Pos} (hc : X.calm = true) (hN : X.N.Nodup) (hi : X.N[i]? = some x) (hj : X.N[j]? = some y) (hl : X.N[l]? = some z) (hij : i ≠ j) (hil : i ≠ l) (hjl : j ≠ l)
    (hx : X.env.scope.names.lookup x = some .local) (hy : X.env.scope.names.lookup y = some .local) (hz : X.env.scope.names.lookup z = some .local) (ha : IA X cad [a, b, d'] g)
    (hw : swappedStores [.Tuple [.Name x px, .Name y py, .Name z pz] kt pt] (.Tuple [a, b, d'] k2 pt2) X.env = pure (some [x, y, z]))
    (hs : swapsWithSole [.Tuple [.Name x px, .Name y py, .Name z pz] kt pt] (.Tuple [a, b, d'] k2 pt2) pos.line X.env = pure false := by rfl) :
    ISt X cad (.Assign [.Tuple [.Name x px, .Name y py, .Name z pz] kt pt] (.Tuple [a, b, d'] k2 pt2) pos) (sPar3 i j l g) := by
  refine ps_weak (ps_par3 hc hN hi hj hl hij hil hjl hx hy hz ha hw hs) fun Dn σ H => ?_
  rintro ⟨as, st, ρ, fl, ρ', st', R, E, q, P⟩
  obtain ⟨⟨ys, st1⟩, e1, q⟩ := bind_some q
  refine tIA_run R E e1 fun as1 H1 vs x1 R1 E1 r1 => ?_
  match ys, r1, q with
  | [_, _, _], .cons (v := v1) q1 (.cons (v := v2) q2 (.cons (v := v3) q3 .nil)), q =>
    cases q
    exact ⟨v1, v2, v3, rfl, P as1 H1 _ x1 R1 (((E1.set q1).set q2).set q3)⟩
/-! targets -/
abbrev MG := D → Rho → Option Rho
def IG (X : Cx) (cad : Cad) (tg : Expr) (g : TG) (m : MG) : Prop := PG X tg g ∧ ∀ (as : List Addr) (H : Hp) (d : D) (v : V) (ρ ρ' : Rho) (σ : L2.St) (Q : L2.St → Hp → Prop), VR X.K as H d v → ER X.K as H ρ σ → m d ρ = some ρ' → (∀ σ', ER X.K as H ρ' σ' → Q σ' H) → g v σ H Q
def mName (i : Nat) : MG := fun d ρ => some (ρ.set i (some d))
theorem ig_name {i : Nat} {x : Str} (hN : X.N.Nodup) (hi : X.N[i]? = some x) (hx : Loc X.env.scope x) (hf : X.fn x = true ∨ X.env.scope.names.lookup x = some .local := by first | exact .inl rfl | exact .inr rfl | assumption) : IG X cad (.Name x pos) (gName i) (mName i) := by
  refine ⟨pg_name hN hi hx hf, fun as H d v ρ ρ' σ Q r E e P => ?_⟩
  cases e
  exact P _ (E.set r)
/-- the names of a tuple -/
def IGs (X : Cx) (cad : Cad) (tgs : List Expr) (g : TGs) (m : List D → Rho → Option Rho) : Prop := PGs X tgs g ∧ ∀ (as : List Addr) (H : Hp) (ds : List D) (vs : List V) (ρ ρ' : Rho) (σ : L2.St) (Q : L2.St → Hp → Prop), VRs X.K as H ds vs → ER X.K as H ρ σ → m ds ρ = some ρ' → (∀ σ', ER X.K as H ρ' σ' → Q σ' H) → g vs σ H Q
def mNil : List D → Rho → Option Rho := fun ds ρ => match ds with
  | [] => some ρ
  | _ => none
def mCons (m : MG) (n : List D → Rho → Option Rho) : List D → Rho → Option Rho := fun ds ρ => match ds with
  | d :: r => (m d ρ).bind fun ρ1 => n r ρ1
  | [] => none
theorem igs_nil : IGs X cad [] gNil mNil := by
  refine ⟨pgs_nil, fun as H ds vs ρ ρ' σ Q r E e P => ?_⟩
  cases r with
  | nil =>
    cases e
    exact ⟨rfl, P σ E⟩
  | cons _ _ => cases e
def mTup (n : Nat) (m : List D → Rho → Option Rho) : MG := fun d ρ => match d with
  | .tup ds => if ds.length = n then m ds ρ else none
  | _ => none
def sAsg (f : ME) (m : MG) : MS := fun ρ st => (f ρ st).bind fun p => (m p.1 ρ).map fun ρ' => (.nx, ρ', p.2)
theorem sAsg_to {tg : TG} {m : MG} {K : PySem.W.Frag} (hg : ∀ (as : List Addr) (H : Hp) (d : D) (v : V) (ρ ρ' : Rho) (σ : L2.St) (Q : L2.St → Hp → Prop), VR K as H d v → ER K as H ρ σ → m d ρ = some ρ' → (∀ σ', ER K as H ρ' σ' → Q σ' H) → tg v σ H Q)
    {Dn : Ends} {σ : L2.St} {H : Hp} (hw : tIS K cad (sAsg f m) Dn σ H) : tAsg (tI K cad f) tg Dn σ H := by
  obtain ⟨as, st, ρ, fl, ρ', st', R, E, q, P⟩ := hw
  obtain ⟨⟨x, st1⟩, e1, q⟩ := bind_some q
  obtain ⟨ρ1, e2, e3⟩ := map_some q
  cases e3
  exact tI_run R E e1 fun as1 H1 v x1 R1 E1 r1 => hg as1 H1 x v ρ ρ' σ _ r1 E1 e2 fun σ' E' => P as1 H1 σ' x1 R1 E'
theorem igs_cons {tg : Expr} {tgs : List Expr} {g1 : TG} {g2 : TGs} {m : MG} {n : List D → Rho → Option Rho} (h1 : IG X cad tg g1 m) (h2 : IGs X cad tgs g2 n)
    (hs : (assignEach (tg :: tgs) X.env).map (·.2) = assign tg X.env :: (assignEach tgs X.env).map (·.2) := by rfl) : IGs X cad (tg :: tgs) (gCons g1 g2) (mCons m n) := by
  refine ⟨pgs_cons h1.1 h2.1 hs, fun as H ds vs ρ ρ' σ Q r E e P => ?_⟩
  cases r with
  | nil => cases e
  | @cons d ds v vs r t =>
    obtain ⟨ρ1, e1, e2⟩ := bind_some e
    exact ⟨v, vs, rfl, h1.2 as H d v ρ ρ1 σ _ r E e1 fun σ1 E1 => h2.2 as H ds vs ρ1 ρ' σ1 Q t E1 e2 P⟩
theorem ig_tup {tgs : List Expr} {k n : Nat} {g2 : TGs} {m : List D → Rho → Option Rho} (hc : X.calm = true) (h : IGs X cad tgs g2 m) (hn : (assignEach tgs X.env).length = n := by rfl) (hst : (assignEach tgs X.env).findIdx? (·.1) = none := by rfl) :
    IG X cad (.Tuple tgs k pos) (gTup X.K n g2) (mTup n m) := by
  refine ⟨pg_tup hc h.1 hn hst, fun as H d v ρ ρ' σ Q r E e P => ?_⟩
  cases r with
  | @tup a xs ds hs rs =>
    simp only [mTup] at e
    split at e
    · rename_i hl
      exact ⟨a, xs, rfl, hs, by rw [← rs.length]; exact hl, h.2 as H ds xs ρ ρ' σ Q rs E e P⟩
    · cases e
  | _ => cases e
theorem is_asg {tg : Expr} {g1 : TG} {m : MG} (ha : IE X cad e f) (hg : IG X cad tg g1 m) (hs : swapsWithSole [tg] e pos.line X.env = pure false := by rfl) (hw : swappedStores [tg] e X.env = pure none := by rfl)
    (h1 : (assignEach [tg] X.env).map (·.2) = [assign tg X.env] := by rfl) : ISt X cad (.Assign [tg] e pos) (sAsg f m) :=
  ps_weak (ps_asg ha hg.1 hs hw h1) fun _ _ _ hw => sAsg_to hg.2 hw

/-! ### o[i] = e -/
def putD (kvs : List (Key × D)) (k : Key) (d : D) : List (Key × D) := if (kvs.any fun kv => decide (kv.1 = k)) = true then kvs.map fun kv => if kv.1 = k then (kv.1, d) else kv else kvs ++ [(k, d)]
theorem KVR.any {K : PySem.W.Frag} {as : List Addr} {H : Hp} {kvs : List (Key × D)} {xs : List (Key × V)} (r : KVR K as H kvs xs) (k : Key) : (kvs.any fun kv => decide (kv.1 = k)) = xs.any fun kv => decide (kv.1 = k) := by
  induction r with
  | nil => rfl
  | @cons p q ps qs h _ ih =>
    rw [List.any_cons, List.any_cons, ih, h.1]
theorem KVR.put {K : PySem.W.Frag} {as : List Addr} {H : Hp} {kvs : List (Key × D)} {xs : List (Key × V)} (r : KVR K as H kvs xs) (k : Key) {d : D} {v : V} (rv : VR K as H d v) : KVR K as H (putD kvs k d) (putK xs k v) := by
  unfold putD putK
  rw [r.any k]
  split
  · rename_i hc
    clear hc
    induction r with
    | nil => exact .nil
    | @cons p q ps qs h _ ih =>
      rw [List.map_cons, List.map_cons]
      refine .cons ?_ ih
      rw [h.1]
      by_cases e : q.1 = k
      · rw [if_pos e, if_pos e]
        exact ⟨rfl, rv⟩
      · rw [if_neg e, if_neg e]
        exact h
  · rename_i hc
    clear hc
    induction r with
    | nil => exact .cons ⟨rfl, rv⟩ .nil
    | @cons p q ps qs h _ ih => exact .cons h ih
/-- o[i] = d -/
def setO (x y d : D) (st : Sto) : Option Sto := match x with
  | .ref k => match myL st k with
    | some ds => match y with
      | .int i => (ixN ds.length i).map fun j => st.set k (.lst (ds.set j d))
      | _ => none
    | none => match myD st k, keyOf y with
      | some kvs, some key => if kvs.length < LIM then some (st.set k (.dic (putD kvs key d))) else none
      | _, _ => none
  | _ => none
def rSetD : V → V → V → Hp → (Hp → Prop) → Prop := fun o i v H Q => ∃ a H4, o = .ref a ∧ DPut H a i v H4 ∧ Q H4
theorem set_dict (hu : X.A.units + 64 < cLine) : PSet X rSetD := by
  intro pins s σ H o i v ov iv u Q I ro ri rv h
  obtain ⟨a, H4, rfl, g, q⟩ := h
  obtain rfl : ov = Value.ref a := ro
  exact d_setItem (by omega) I g ri rv fun s' I' => ⟨H4, I', q⟩
theorem PSet.or {t t' : TSet} (h : PSet X t) (h' : PSet X t') : PSet X (fun o i v H Q => t o i v H Q ∨ t' o i v H Q) := by
  intro pins s σ H o i v ov iv u Q I ro ri rv q
  rcases q with q | q
  · exact h pins s σ H o i v ov iv u Q I ro ri rv q
  · exact h' pins s σ H o i v ov iv u Q I ro ri rv q
theorem setO_to {K : PySem.W.Frag} {as : List Addr} {st st' : Sto} {H : Hp} {x y d : D} {vx vy vd : V} {Q : Hp → Prop} (R : Rel K cad as st H) (r1 : VR K as H x vx) (r2 : VR K as H y vy) (r3 : VR K as H d vd) (e : setO x y d st = some st')
    (P : ∀ H', Ext K as H as H' → Rel K cad as st' H' → Q H') : rSetL vx vy vd H Q ∨ rSetD vx vy vd H Q := by
  cases r1 with
  | @ref n a ha =>
    simp only [setO] at e
    split at e
    · rename_i ds e0
      cases r2 with
      | int i =>
        obtain ⟨j, e1, rfl⟩ := map_some e
        obtain ⟨xs, q, rs⟩ := R.myL e0 ha
        have e2 := myL_at e0
        obtain ⟨u, q0, q1, q2⟩ := (R.ob n _ a e2 ha).there rfl
        have x : Ext K as H as (upd H a (.lst (xs.set j vd))) := ⟨⟨[], by simp⟩, fun b ys h => sqT_write q0 q1 q2 h⟩
        obtain ⟨R', _⟩ := R.write (u := .lst (xs.set j vd)) (o' := .lst (ds.set j d)) e2 ha rfl rfl ⟨_, upd_same, (rs.set r3 j).mono x⟩
        exact .inl ⟨a, xs, i, j, rfl, rfl, q, by rw [← rs.length]; exact e1, P _ x R'⟩
      | _ => cases e
    · split at e
      · rename_i kvs key e3 e4
        split at e
        · rename_i hl
          cases e
          obtain ⟨xs, q, rs⟩ := R.myD e3 ha
          have e2 := myD_at e3
          obtain ⟨u, q0, q1, q2⟩ := (R.ob n _ a e2 ha).there rfl
          have x : Ext K as H as (upd H a (.dK (putK xs key vd))) := ⟨⟨[], by simp⟩, fun b ys h => sqT_write q0 q1 q2 h⟩
          obtain ⟨R', _⟩ := R.write (u := .dK (putK xs key vd)) (o' := .dic (putD kvs key d)) e2 ha rfl rfl ⟨_, upd_same, Paired.map2 (fun _ _ z => ⟨z.1, z.2.mono x⟩) (rs.put key r3)⟩
          refine .inr ⟨a, _, rfl, ?_, P _ x R'⟩
          rw [keyOf_is r2 e4]
          exact DPut.k q (by rw [← rs.length]; exact lim_lt hl)
        · cases e
      · cases e
  | _ => cases e
def sPut (fo fi f : ME) : MS := fun ρ st => (f ρ st).bind fun p => (fo ρ p.2).bind fun x => (fi ρ x.2).bind fun y => (setO x.1 y.1 p.1 y.2).map fun st' => (.nx, ρ, st')
theorem is_put {o i : Expr} {fo fi : ME} {p' : Pos} (hu : X.A.units + 64 < cLine) (ho : IE X cad o fo) (hi : IE X cad i fi) (ha : IE X cad e f)
    (hb : ∀ v, assign (.Subscript o i p') X.env v = (do
      let ov ← holding [v] (eval o X.env)
      let iv ← holding [v, ov] (eval i X.env)
      standAt p'
      holding [v, ov, iv] (setItem ov iv v)
      release [v, ov, iv] []) := by intro _; rfl)
    (hs : swapsWithSole [.Subscript o i p'] e pos.line X.env = pure false := by rfl) (hw : swappedStores [.Subscript o i p'] e X.env = pure none := by rfl)
    (h1 : (assignEach [.Subscript o i p'] X.env).map (·.2) = [assign (.Subscript o i p') X.env] := by rfl) :
    ISt X cad (.Assign [.Subscript o i p'] e pos) (sPut fo fi f) := by
  refine ps_weak (ps_asg ha (pg_sub ho hi (PSet.or set_list (set_dict hu)) hb) hs hw h1) fun Dn σ H => ?_
  rintro ⟨as, st, ρ, fl, ρ', st', R, E, q, P⟩
  obtain ⟨⟨d, st1⟩, e1, q⟩ := bind_some q
  obtain ⟨⟨x, st2⟩, e2, q⟩ := bind_some q
  obtain ⟨⟨y, st3⟩, e3, q⟩ := bind_some q
  obtain ⟨st4, e4, e5⟩ := map_some q
  cases e5
  exact tI_run R E e1 fun as1 H1 v x1 R1 E1 r1 => tI_run R1 E1 e2 fun as2 H2 w x2 R2 E2 r2 => tI_run R2 E2 e3 fun as3 H3 u x3 R3 E3 r3 =>
    setO_to R3 (r2.mono x3) r3 (r1.mono (x2.trans x3)) e4 fun H4 x4 R4 => P as3 H4 σ (x1.trans (x2.trans (x3.trans x4))) R4 (E3.mono x4)
end
end MP

set_option maxRecDepth 100000
/-! MP 8: for, while, comprehensions, bodies of defs. -/
namespace MP
open PySem PySem.Spec PyProof.Rows L2

/-! ### what is walked -/
/-- the items, and what must stay while they are walked -/
abbrev MI := Rho → Sto → Option ((List D × (Sto → Prop)) × Sto)
structure ItD (K : PySem.W.Frag) (cad : Cad) (as : List Addr) (H : Hp) (J : It) (ds : List D) (chk : Sto → Prop) : Prop where
  go : ∀ (as' : List Addr) (st : Sto) (H' : Hp) (i : Nat) (d : D), Ext K as H as' H' → Rel K cad as' st H' → chk st → ds[i]? = some d → J.go i H' ∧ ∀ x H2, J.yld i H' x H2 → Ext K as' H' as' H2 ∧ Rel K cad as' st H2 ∧ VR K as' H2 d x
  stop : ∀ (as' : List Addr) (st : Sto) (H' : Hp), Ext K as H as' H' → Rel K cad as' st H' → chk st → J.stop ds.length H'
def tII (K : PySem.W.Frag) (cad : Cad) (fi : MI) (σ : L2.St) (H : Hp) (R : It → Hp → Prop) : Prop :=
  ∃ as st ρ ds chk st', Rel K cad as st H ∧ ER K as H ρ σ ∧ fi ρ st = some ((ds, chk), st') ∧ ∀ as' H' J, Ext K as H as' H' → Rel K cad as' st' H' → ItD K cad as' H' J ds chk → R J H'
def II (X : Cx) (cad : Cad) (tg it : Expr) (wi : TI) (fi : MI) : Prop := PI X tg it wi ∧ ∀ σ H R, tII X.K cad fi σ H R → wi σ H R
theorem PI.or {X : Cx} {tg it : Expr} {w1 w2 : TI} (h1 : PI X tg it w1) (h2 : PI X tg it w2) : PI X tg it (fun σ H R => w1 σ H R ∨ w2 σ H R) := ⟨fun pins s σ H R I q => by
  rcases q with q | q
  · exact h1.run pins s σ H R I q
  · exact h2.run pins s σ H R I q⟩
section
variable {X : Cx} {cad : Cad} {tg e a b c : Expr} {f : ME} {g : MA} {t : MT} {u : MS} {pos p : Pos}
/-- any value: a list, a tuple, a text -/
def iV (f : ME) : MI := fun ρ st => (f ρ st).bind fun p => match p.1 with
  | .ref k => (rdL p.2 k).map fun ds => ((ds, fun s => rdL s k = some ds), p.2)
  | .tup ds => some ((ds, fun _ => True), p.2)
  | .str l => some ((l.map fun c => D.str [c], fun _ => True), p.2)
  | _ => none
def wiV (K : PySem.W.Frag) (te : TE) : TI := fun σ H R => iList K te σ H R ∨ iTup K te σ H R ∨ iStr te σ H R
theorem itd_list {K : PySem.W.Frag} {as : List Addr} {H : Hp} {k : Nat} {a : Addr} {ds : List D} (ha : as[k]? = some a) : ItD K cad as H (Itl K a) ds (fun s => rdL s k = some ds) where
  go := fun as' st H' i d x R hc hd => by
    obtain ⟨xs, hs, rs⟩ := R.rdL hc (x.at ha)
    obtain ⟨v, hv, rv⟩ := rs.get hd
    refine ⟨⟨xs, v, hs, hv⟩, fun y H2 hy => ?_⟩
    obtain ⟨rfl, hy⟩ := hy
    have e := (hy xs hs).symm.trans hv
    cases e
    exact ⟨.refl, R, rv⟩
  stop := fun as' st H' x R hc => by
    obtain ⟨xs, hs, rs⟩ := R.rdL hc (x.at ha)
    exact ⟨xs, hs, by rw [rs.length]; exact Nat.le_refl _⟩
theorem itd_tup {K : PySem.W.Frag} {as : List Addr} {H : Hp} {a : Addr} {xs : List V} {ds : List D} (hs : SqT K H a xs) (rs : VRs K as H ds xs) : ItD K cad as H (Itt K a) ds (fun _ => True) where
  go := fun as' st H' i d x R hc hd => by
    obtain ⟨v, hv, rv⟩ := rs.get hd
    refine ⟨⟨xs, v, x.tup _ _ hs, hv⟩, fun y H2 hy => ?_⟩
    obtain ⟨rfl, hy⟩ := hy
    have e := (hy xs (x.tup _ _ hs)).symm.trans hv
    cases e
    exact ⟨.refl, R, rv.mono x⟩
  stop := fun as' st H' x R hc => ⟨xs, x.tup _ _ hs, by rw [rs.length]; exact Nat.le_refl _⟩
theorem itd_str {K : PySem.W.Frag} {as : List Addr} {H : Hp} {l : List Nat} (hl : okS l = true) : ItD K cad as H (Its (mkS l)) (l.map fun c => D.str [c]) (fun _ => True) where
  go := fun as' st H' i d x R hc hd => by
    rw [List.getElem?_map] at hd
    obtain ⟨c, e1, rfl⟩ := map_some hd
    obtain ⟨h1, h2⟩ := List.getElem?_eq_some_iff.mp e1
    have hi : i < (mkS l).cps.size := by
      show i < l.toArray.size
      rw [List.size_toArray]
      exact h1
    refine ⟨hi, fun y H2 hy => ?_⟩
    obtain ⟨rfl, c', e2, rfl⟩ := hy
    have e3 : (mkS l).cps[i]? = some c := by
      show l.toArray[i]? = some c
      rw [List.getElem?_toArray]
      exact e1
    rw [e3] at e2
    cases e2
    refine ⟨.refl, R, VR.str (l := [c]) (okS_sub hl fun z hz => ?_)⟩
    have : z = c := by simpa using hz
    subst this
    exact List.mem_of_getElem? e1
  stop := fun as' st H' x R hc => by
    show (mkS l).cps.size ≤ _
    show l.toArray.size ≤ _
    rw [List.size_toArray, List.length_map]
    exact Nat.le_refl _
theorem ii_v (ha : IE X cad e f) : II X cad tg e (wiV X.K (tI X.K cad f)) (iV f) := by
  refine ⟨PI.or (pi_list ha) (PI.or (pi_tup ha) (pi_str ha)), fun σ H R => ?_⟩
  rintro ⟨as, st, ρ, ds, chk, st', Rl, E, q, P⟩
  obtain ⟨⟨x, st1⟩, e1, q⟩ := bind_some q
  have go : ∀ {Q : VK}, (∀ as' H' v, Ext X.K as H as' H' → Rel X.K cad as' st1 H' → ER X.K as' H' ρ σ → VR X.K as' H' x v → Q v H') → tI X.K cad f σ H Q := fun h => tI_run Rl E e1 h
  cases x with
  | ref k =>
    obtain ⟨es, e2, e3⟩ := map_some q
    cases e3
    refine .inl (go fun as1 H1 v x1 R1 E1 r1 => ?_)
    cases r1 with
    | @ref n a ha =>
      obtain ⟨xs, hs, rs⟩ := R1.rdL e2 ha
      exact ⟨a, rfl, ⟨xs, hs⟩, P as1 H1 _ x1 R1 (itd_list ha)⟩
  | tup es =>
    cases q
    refine .inr (.inl (go fun as1 H1 v x1 R1 E1 r1 => ?_))
    cases r1 with
    | @tup a xs _ hs rs => exact ⟨a, rfl, ⟨xs, hs⟩, P as1 H1 _ x1 R1 (itd_tup hs rs)⟩
  | str l =>
    cases q
    refine .inr (.inr (go fun as1 H1 v x1 R1 E1 r1 => ?_))
    cases r1 with
    | str hl => exact ⟨_, rfl, P as1 H1 _ x1 R1 (itd_str hl)⟩
  | _ => cases q
/-- range(..) -/
def rngD (lo : Int) (n : Nat) : List D := (List.range n).map fun i => .int (lo + (i : Nat))
theorem itd_rng {K : PySem.W.Frag} {as : List Addr} {H : Hp} {lo : Int} {n : Nat} : ItD K cad as H (Itr lo n) (rngD lo n) (fun _ => True) where
  go := fun as' st H' i d x R hc hd => by
    unfold rngD at hd
    rw [List.getElem?_map] at hd
    obtain ⟨c, e1, rfl⟩ := map_some hd
    obtain ⟨h1, h2⟩ := List.getElem?_eq_some_iff.mp e1
    rw [List.length_range] at h1
    rw [List.getElem_range] at h2
    subst h2
    refine ⟨h1, fun y H2 hy => ?_⟩
    obtain ⟨rfl, rfl⟩ := hy
    exact ⟨.refl, R, .int _⟩
  stop := fun as' st H' x R hc => by
    show n ≤ (rngD lo n).length
    unfold rngD
    rw [List.length_map, List.length_range]
    exact Nat.le_refl _
def iR1 (g : MA) : MI := fun ρ st => (g ρ st).bind fun p => match p.1 with
  | [.int n] => if -(LIM : Int) ≤ n ∧ n ≤ (LIM : Nat) then some ((rngD 0 n.toNat, fun _ => True), p.2) else none
  | _ => none
theorem ii_r1 (hg : Gl X "range") (hm : X.mg "range" = none) (ha : IA X cad [a] g) (hs : starEach [a] X.env = [(false, eval a X.env)] := by rfl) : II X cad tg (.Call (.Name "range" p) [a] [] pos) (iRng1 (tIA X.K cad g)) (iR1 g) := by
  refine ⟨pi_range1 hg hm ha hs, fun σ H R => ?_⟩
  rintro ⟨as, st, ρ, ds, chk, st', Rl, E, q, P⟩
  obtain ⟨⟨x, st1⟩, e1, q⟩ := bind_some q
  refine tIA_run Rl E e1 fun as1 H1 vs x1 R1 E1 r1 => ?_
  cases r1 with
  | nil => cases q
  | cons r2 t =>
    cases t with
    | cons _ _ => cases r2 <;> cases q
    | nil =>
      cases r2 with
      | int n =>
        simp only at q
        split at q
        · rename_i h
          cases q
          have hL : LIM = 16000000 := rfl
          rw [hL] at h
          exact ⟨n, rfl, by omega, by omega, P as1 H1 _ x1 R1 itd_rng⟩
        · cases q
      | _ => cases q
def iR2 (g : MA) : MI := fun ρ st => (g ρ st).bind fun p => match p.1 with
  | [.int i, .int j] => if -(LIM : Int) ≤ i ∧ i ≤ (LIM : Nat) ∧ -(LIM : Int) ≤ j ∧ j ≤ (LIM : Nat) then some ((rngD i (j - i).toNat, fun _ => True), p.2) else none
  | _ => none
theorem ii_r2 (hg : Gl X "range") (hm : X.mg "range" = none) (ha : IA X cad [a, b] g) (hs : starEach [a, b] X.env = [(false, eval a X.env), (false, eval b X.env)] := by rfl) (hs2 : starEach [b] X.env = [(false, eval b X.env)] := by rfl) :
    II X cad tg (.Call (.Name "range" p) [a, b] [] pos) (iRng2 (tIA X.K cad g)) (iR2 g) := by
  refine ⟨pi_range2 hg hm ha hs hs2, fun σ H R => ?_⟩
  rintro ⟨as, st, ρ, ds, chk, st', Rl, E, q, P⟩
  obtain ⟨⟨x, st1⟩, e1, q⟩ := bind_some q
  refine tIA_run Rl E e1 fun as1 H1 vs x1 R1 E1 r1 => ?_
  cases r1 with
  | nil => cases q
  | cons r2 t =>
    cases t with
    | nil => cases r2 <;> cases q
    | cons r3 t =>
      cases t with
      | cons _ _ => cases r2 <;> cases r3 <;> cases q
      | nil =>
        cases r2 with
        | int i =>
          cases r3 with
          | int j =>
            simp only at q
            split at q
            · rename_i h
              cases q
              have hL : LIM = 16000000 := rfl
              rw [hL] at h
              exact ⟨i, j, rfl, ⟨by omega, by omega, by omega, by omega⟩, P as1 H1 _ x1 R1 itd_rng⟩
            · cases q
          | _ => cases q
        | _ => cases r3 <;> cases q
/-- enumerate(a list) -/
def enumD (ds : List D) : List D := (List.range ds.length).map fun i => .tup [.int (i : Nat), ds.getD i .non]
theorem itd_enum {K : PySem.W.Frag} {as : List Addr} {H : Hp} {k : Nat} {a : Addr} {ds : List D} (ha : as[k]? = some a) : ItD K cad as H (Ite K a) (enumD ds) (fun s => rdL s k = some ds) where
  go := fun as' st H' i d x R hc hd => by
    unfold enumD at hd
    rw [List.getElem?_map] at hd
    obtain ⟨c, e1, rfl⟩ := map_some hd
    obtain ⟨h1, h2⟩ := List.getElem?_eq_some_iff.mp e1
    rw [List.length_range] at h1
    rw [List.getElem_range] at h2
    subst h2
    obtain ⟨xs, hs, rs⟩ := R.rdL hc (x.at ha)
    have e3 : ds[i]? = some (ds.getD i .non) := by
      rw [List.getD_eq_getElem?_getD, List.getElem?_eq_getElem h1]
      rfl
    obtain ⟨v, hv, rv⟩ := rs.get e3
    refine ⟨⟨xs, v, hs, hv⟩, fun y H2 hy => ?_⟩
    obtain ⟨T, z, rfl, hT, rfl, hz⟩ := hy
    have e4 := (hz xs hs).symm.trans hv
    cases e4
    exact ⟨Ext.fresh hT, R.fresh hT, .tup (.inl (.inl upd_same)) (.cons (.int _) (.cons (rv.mono (Ext.fresh hT)) .nil))⟩
  stop := fun as' st H' x R hc => by
    obtain ⟨xs, hs, rs⟩ := R.rdL hc (x.at ha)
    refine ⟨xs, hs, ?_⟩
    unfold enumD
    rw [List.length_map, List.length_range, rs.length]
    exact Nat.le_refl _
def iEn (g : MA) : MI := fun ρ st => (g ρ st).bind fun p => match p.1 with
  | [.ref k] => (rdL p.2 k).map fun ds => ((enumD ds, fun s => rdL s k = some ds), p.2)
  | _ => none
theorem ii_enum {elts : List Expr} {kk : Nat} {tpos : Pos} (hg : Gl X "enumerate") (hm : X.mg "enumerate" = none) (ha : IA X cad [a] g) (hs : starEach [a] X.env = [(false, eval a X.env)] := by rfl) :
    II X cad (.Tuple elts kk tpos) (.Call (.Name "enumerate" p) [a] [] pos) (iEnum X.K (tIA X.K cad g)) (iEn g) := by
  refine ⟨pi_enum hg hm ha hs, fun σ H R => ?_⟩
  rintro ⟨as, st, ρ, ds, chk, st', Rl, E, q, P⟩
  obtain ⟨⟨x, st1⟩, e1, q⟩ := bind_some q
  refine tIA_run Rl E e1 fun as1 H1 vs x1 R1 E1 r1 => ?_
  cases r1 with
  | nil => cases q
  | cons r2 t =>
    cases t with
    | cons _ _ => cases r2 <;> cases q
    | nil =>
      cases r2 with
      | @ref n a ha =>
        obtain ⟨es, e2, e3⟩ := map_some q
        cases e3
        obtain ⟨xs, hs, rs⟩ := R1.rdL e2 ha
        exact ⟨a, xs, rfl, hs, P as1 H1 _ x1 R1 (itd_enum ha)⟩
      | _ => cases q
/-- zip of two lists -/
def zipD (ds es : List D) : List D := (ds.zip es).map fun p => .tup [p.1, p.2]
theorem itd_zip {K : PySem.W.Frag} {as : List Addr} {H : Hp} {k n : Nat} {a b : Addr} {ds es : List D} (ha : as[k]? = some a) (hb : as[n]? = some b) : ItD K cad as H (Itz K a b) (zipD ds es) (fun s => rdL s k = some ds ∧ rdL s n = some es) where
  go := fun as' st H' i d x R hc hd => by
    unfold zipD at hd
    rw [List.getElem?_map] at hd
    obtain ⟨c, e1, rfl⟩ := map_some hd
    obtain ⟨h1, h2⟩ := List.getElem?_zip_eq_some.mp e1
    obtain ⟨xs, hs, rs⟩ := R.rdL hc.1 (x.at ha)
    obtain ⟨ys, hs2, rs2⟩ := R.rdL hc.2 (x.at hb)
    obtain ⟨v, hv, rv⟩ := rs.get h1
    obtain ⟨w, hw, rw'⟩ := rs2.get h2
    refine ⟨⟨xs, ys, v, w, hs, hs2, hv, hw⟩, fun y H2 hy => ?_⟩
    obtain ⟨T, z1, z2, rfl, hT, rfl, hz, hz2⟩ := hy
    have e4 := (hz xs hs).symm.trans hv
    cases e4
    have e5 := (hz2 ys hs2).symm.trans hw
    cases e5
    exact ⟨Ext.fresh hT, R.fresh hT, .tup (.inl (.inl upd_same)) (.cons (rv.mono (Ext.fresh hT)) (.cons (rw'.mono (Ext.fresh hT)) .nil))⟩
  stop := fun as' st H' x R hc => by
    obtain ⟨xs, hs, rs⟩ := R.rdL hc.1 (x.at ha)
    obtain ⟨ys, hs2, rs2⟩ := R.rdL hc.2 (x.at hb)
    refine ⟨xs, ys, hs, hs2, ?_⟩
    unfold zipD
    rw [List.length_map, List.length_zip, ← rs.length, ← rs2.length]
    omega
def iZp (g : MA) : MI := fun ρ st => (g ρ st).bind fun p => match p.1 with
  | [.ref k, .ref n] => match rdL p.2 k, rdL p.2 n with
    | some ds, some es => some ((zipD ds es, fun s => rdL s k = some ds ∧ rdL s n = some es), p.2)
    | _, _ => none
  | _ => none
theorem ii_zip {elts : List Expr} {kk : Nat} {tpos : Pos} (hg : Gl X "zip") (hm : X.mg "zip" = none) (ha : IA X cad [a, b] g) (hs : starEach [a, b] X.env = (false, eval a X.env) :: starEach [b] X.env := by rfl) (hpl : (backTo pos (starEach [b] X.env)).any (·.1) = false := by rfl) :
    II X cad (.Tuple elts kk tpos) (.Call (.Name "zip" p) [a, b] [] pos) (iZip X.K (tIA X.K cad g)) (iZp g) := by
  refine ⟨pi_zip hg hm ha hs hpl, fun σ H R => ?_⟩
  rintro ⟨as, st, ρ, ds, chk, st', Rl, E, q, P⟩
  obtain ⟨⟨x, st1⟩, e1, q⟩ := bind_some q
  refine tIA_run Rl E e1 fun as1 H1 vs x1 R1 E1 r1 => ?_
  cases r1 with
  | nil => cases q
  | cons r2 t =>
    cases t with
    | nil => cases r2 <;> cases q
    | cons r3 t =>
      cases t with
      | cons _ _ => cases r2 <;> cases r3 <;> cases q
      | nil =>
        cases r2 with
        | @ref n a ha =>
          cases r3 with
          | @ref m b hb =>
            simp only at q
            split at q
            · rename_i ds' es' e2 e3
              cases q
              obtain ⟨xs, hs, rs⟩ := R1.rdL e2 ha
              obtain ⟨ys, hs2, rs2⟩ := R1.rdL e3 hb
              exact ⟨a, b, xs, ys, rfl, hs, hs2, P as1 H1 _ x1 R1 (itd_zip ha hb)⟩
            · cases q
          | _ => cases q
        | _ => cases r3 <;> cases q

/-! ### for -/
open Classical in
noncomputable def loopF (chk : Sto → Prop) (m : MG) (body : MS) : List D → MS
  | [] => fun ρ st => if chk st then some (.nx, ρ, st) else none
  | d :: r => fun ρ st => if chk st then (m d ρ).bind fun ρ1 => (body ρ1 st).bind fun q => match q.1 with
      | .nx => loopF chk m body r q.2.1 q.2.2
      | .ct => loopF chk m body r q.2.1 q.2.2
      | .bk => some (.nx, q.2.1, q.2.2)
      | .rt d => some (.rt d, q.2.1, q.2.2)
    else none
noncomputable def sFor (fi : MI) (m : MG) (body : MS) : MS := fun ρ st => (fi ρ st).bind fun p => loopF p.1.2 m body p.1.1 ρ p.2
theorem for_to {K : PySem.W.Frag} {wi : TI} {fi : MI} {g1 : TG} {m : MG} {u : MS} (hi : ∀ σ H R, tII K cad fi σ H R → wi σ H R)
    (hg : ∀ (as : List Addr) (H : Hp) (d : D) (v : V) (ρ ρ' : Rho) (σ : L2.St) (Q : L2.St → Hp → Prop), VR K as H d v → ER K as H ρ σ → m d ρ = some ρ' → (∀ σ', ER K as H ρ' σ' → Q σ' H) → g1 v σ H Q)
    {Dn : Ends} {σ : L2.St} {H : Hp} (hw : tIS K cad (sFor fi m u) Dn σ H) : tFor wi g1 (tIS K cad u) Dn σ H := by
  obtain ⟨as, st, ρ, fl, ρ', st', R, E, q, P⟩ := hw
  obtain ⟨⟨⟨ds, chk⟩, st1⟩, e1, q⟩ := bind_some q
  refine hi σ H _ ⟨as, st, ρ, ds, chk, st1, R, E, e1, fun as1 H1 J x1 R1 D1 => ?_⟩
  refine ⟨fun i n σ2 H2 => ∃ as2 ρ2 st2, n = ds.length - i ∧ i ≤ ds.length ∧ Ext K as1 H1 as2 H2 ∧ Rel K cad as2 st2 H2 ∧ ER K as2 H2 ρ2 σ2 ∧ loopF chk m u (ds.drop i) ρ2 st2 = some (fl, ρ', st'),
    ⟨ds.length, as1, ρ, st1, rfl, Nat.zero_le _, .refl, R1, E.mono x1, q⟩, ?_⟩
  rintro i n σ2 H2 ⟨as2, ρ2, st2, rfl, hi2, x2, R2, E2, q2⟩
  by_cases hlt : i < ds.length
  · rw [List.drop_eq_getElem_cons hlt] at q2
    simp only [loopF] at q2
    split at q2
    · rename_i hc
      obtain ⟨ρ3, e3, q2⟩ := bind_some q2
      obtain ⟨⟨fl4, ρ4, st4⟩, e4, q2⟩ := bind_some q2
      obtain ⟨g1', g2'⟩ := D1.go as2 st2 H2 i ds[i] x2 R2 hc (List.getElem?_eq_getElem hlt)
      refine .inr ⟨g1', fun σ5 H5 => ∃ as5 ρ5 st5, Ext K as1 H1 as5 H5 ∧ Rel K cad as5 st5 H5 ∧ ER K as5 H5 ρ5 σ5 ∧ loopF chk m u (ds.drop (i + 1)) ρ5 st5 = some (fl, ρ', st'), ?_, ?_⟩
      · rintro σ5 H5 ⟨as5, ρ5, st5, x5, R5, E5, q5⟩
        exact ⟨ds.length - (i + 1), by omega, as5, ρ5, st5, rfl, hlt, x5, R5, E5, q5⟩
      · intro x H3 hy
        obtain ⟨x3, R3, rv⟩ := g2' x H3 hy
        refine hg as2 H3 ds[i] x ρ2 ρ3 σ2 _ rv (E2.mono x3) e3 fun σ3 E3 => ?_
        refine tIS_run R3 E3 e4 fun as4 H4 σ4 x4 R4 E4 => ?_
        cases fl4 with
        | nx => exact ⟨as4, ρ4, st4, x2.trans (x3.trans x4), R4, E4, q2⟩
        | ct => exact ⟨as4, ρ4, st4, x2.trans (x3.trans x4), R4, E4, q2⟩
        | bk =>
          cases q2
          exact P as4 H4 σ4 (x1.trans (x2.trans (x3.trans x4))) R4 E4
        | rt d =>
          cases q2
          exact P as4 H4 σ4 (x1.trans (x2.trans (x3.trans x4))) R4 E4
    · cases q2
  · have e : i = ds.length := by omega
    subst e
    rw [List.drop_length] at q2
    simp only [loopF] at q2
    split at q2
    · rename_i hc
      cases q2
      exact .inl ⟨D1.stop as2 _ H2 x2 R2 hc, P as2 H2 σ2 (x1.trans x2) R2 E2⟩
    · cases q2
theorem is_for {wi : TI} {fi : MI} {g1 : TG} {m : MG} {body : List Stmt} (hp : PassesOwn (model X.prog X.w) X.A X.env X.xe) (hc : X.calm = true) (hi : II X cad tg e wi fi) (hg : IG X cad tg g1 m) (hb : ISs X cad body u)
    (hs : ∀ x, foldedSetIterable e X.env x = pure x := by intro _; rfl) : ISt X cad (.For tg e body [] pos) (sFor fi m u) :=
  ps_weak (ps_for hp hc hi.1 hg.1 hb hs) fun _ _ _ hw => for_to hi.2 hg.2 hw

/-! ### while -/
def loopW (t : MT) (u : MS) : Nat → MS
  | 0 => fun _ _ => none
  | n + 1 => fun ρ st => (t ρ st).bind fun p => if p.1 = true then (u ρ p.2).bind fun q => match q.1 with
      | .nx => loopW t u n q.2.1 q.2.2
      | .ct => loopW t u n q.2.1 q.2.2
      | .bk => some (.nx, q.2.1, q.2.2)
      | .rt d => some (.rt d, q.2.1, q.2.2)
    else some (.nx, ρ, p.2)
theorem loopW_more {t : MT} {u : MS} : ∀ {n : Nat} {ρ : Rho} {st : Sto} {r : Fl × Rho × Sto} (m : Nat), n ≤ m → loopW t u n ρ st = some r → loopW t u m ρ st = some r
  | 0, _, _, _, _, _, e => by cases e
  | n + 1, ρ, st, r, 0, h, _ => by omega
  | n + 1, ρ, st, r, m + 1, h, e => by
    simp only [loopW] at e ⊢
    obtain ⟨p, e1, e⟩ := bind_some e
    rw [e1]
    show (if p.1 = true then _ else _) = _
    split at e
    · rename_i hc
      rw [if_pos hc]
      obtain ⟨⟨fl, ρ1, st1⟩, e2, e⟩ := bind_some e
      rw [e2]
      cases fl with
      | nx => exact loopW_more m (by omega) e
      | ct => exact loopW_more m (by omega) e
      | bk => exact e
      | rt d => exact e
    · rename_i hc
      rw [if_neg hc]
      exact e
def FUEL : Nat := 1000000000
def sWhile (t : MT) (u : MS) : MS := fun ρ st => loopW t u FUEL ρ st
theorem while_to {K : PySem.W.Frag} {t : MT} {u : MS} {N : Nat} {Dn : Ends} {σ : L2.St} {H : Hp} (hw : tIS K cad (fun ρ st => loopW t u N ρ st) Dn σ H) : tWhile (tIT K cad t) (tIS K cad u) Dn σ H := by
  obtain ⟨as, st, ρ, fl, ρ', st', R, E, q, P⟩ := hw
  refine ⟨fun n σ2 H2 => ∃ as2 ρ2 st2, Ext K as H as2 H2 ∧ Rel K cad as2 st2 H2 ∧ ER K as2 H2 ρ2 σ2 ∧ loopW t u n ρ2 st2 = some (fl, ρ', st'), ⟨N, as, ρ, st, .refl, R, E, q⟩, ?_⟩
  rintro n σ2 H2 ⟨as2, ρ2, st2, x2, R2, E2, q2⟩
  cases n with
  | zero => cases q2
  | succ n =>
    simp only [loopW] at q2
    obtain ⟨⟨k, st3⟩, e1, q2⟩ := bind_some q2
    refine tIT_run R2 E2 e1 fun as3 H3 x3 R3 E3 => ?_
    cases k with
    | true =>
      rw [if_pos rfl] at q2
      obtain ⟨⟨fl4, ρ4, st4⟩, e4, q2⟩ := bind_some q2
      refine iteT ⟨fun σ5 H5 => ∃ as5 ρ5 st5, Ext K as H as5 H5 ∧ Rel K cad as5 st5 H5 ∧ ER K as5 H5 ρ5 σ5 ∧ loopW t u n ρ5 st5 = some (fl, ρ', st'), ?_, ?_⟩
      · rintro σ5 H5 ⟨as5, ρ5, st5, x5, R5, E5, q5⟩
        exact ⟨n, Nat.lt_succ_self n, as5, ρ5, st5, x5, R5, E5, q5⟩
      · refine tIS_run R3 E3 e4 fun as4 H4 σ4 x4 R4 E4 => ?_
        cases fl4 with
        | nx => exact ⟨as4, ρ4, st4, x2.trans (x3.trans x4), R4, E4, q2⟩
        | ct => exact ⟨as4, ρ4, st4, x2.trans (x3.trans x4), R4, E4, q2⟩
        | bk =>
          cases q2
          exact P as4 H4 σ4 (x2.trans (x3.trans x4)) R4 E4
        | rt d =>
          cases q2
          exact P as4 H4 σ4 (x2.trans (x3.trans x4)) R4 E4
    | false =>
      cases q2
      exact iteF (P as3 H3 σ2 (x2.trans x3) R3 E3)
theorem is_while {body : List Stmt} (hp : PassesOwn (model X.prog X.w) X.A X.env X.xe) (hc : IT X cad c t) (hb : ISs X cad body u) : ISt X cad (.While c body [] pos) (sWhile t u) :=
  ps_weak (ps_while hp hc hb) fun _ _ _ hw => while_to hw

/-! ### comprehensions -/
/-- own names forgotten -/
def wipeD (ρ : Rho) : List Nat → Rho
  | [] => ρ
  | v :: vs => (wipeD ρ vs).set v none
theorem ER.wipe {K : PySem.W.Frag} {as : List Addr} {H : Hp} {ρ : Rho} {σ : L2.St} (E : ER K as H ρ σ) : ∀ vs : List Nat, ER K as H (wipeD ρ vs) (L2.wipe σ vs)
  | [] => E
  | v :: vs => by
    have ih := E.wipe vs
    refine ⟨by show ((wipeD ρ vs).set v none).length = ((L2.wipe σ vs).set v none).length; rw [List.length_set, List.length_set, ih.1], fun i d e => ?_⟩
    have e' : ((wipeD ρ vs).set v none)[i]? = some (some d) := e
    by_cases hi : v = i
    · subst hi
      by_cases hv : v < (wipeD ρ vs).length
      · rw [List.getElem?_set_self hv] at e'
        cases e'
      · rw [List.getElem?_eq_none (by simpa using hv)] at e'
        cases e'
    · rw [List.getElem?_set_ne hi] at e'
      obtain ⟨w, e1, r⟩ := ih.2 i d e'
      exact ⟨w, by show ((L2.wipe σ vs).set v none)[i]? = _; rw [List.getElem?_set_ne hi]; exact e1, r⟩
theorem wipe_eq {σ σ2 : L2.St} (hl : σ.length = σ2.length) : ∀ {vs : List Nat}, (∀ i, i ∉ vs → σ[i]? = σ2[i]?) → L2.wipe σ vs = L2.wipe σ2 vs := fun {vs} h => by
  apply List.ext_getElem?
  intro i
  by_cases hi : i ∈ vs
  · have z : ∀ τ : L2.St, ∀ ws : List Nat, i ∈ ws → (L2.wipe τ ws)[i]? = if i < τ.length then some none else none := fun τ ws => by
      induction ws with
      | nil => intro h; cases h
      | cons w r ih =>
        intro h
        show ((L2.wipe τ r).set w none)[i]? = _
        by_cases e : w = i
        · subst e
          by_cases hl : w < τ.length
          · rw [if_pos hl, List.getElem?_set_self (by rw [L2.wipe_length]; exact hl)]
          · rw [if_neg hl, List.getElem?_eq_none (by rw [List.length_set, L2.wipe_length]; omega)]
        · rw [List.getElem?_set_ne e]
          rcases List.mem_cons.mp h with h | h
          · exact absurd h.symm e
          · exact ih h
    rw [z σ vs hi, z σ2 vs hi, hl]
  · rw [L2.wipe_out hi, L2.wipe_out hi]
    exact h i hi
theorem wipe_set1 {σ : L2.St} {vs : List Nat} {i : Nat} {x : V} (hi : i ∈ vs) : L2.wipe ((L2.wipe σ vs).set i (some x)) vs = L2.wipe σ vs := by
  have h1 : ∀ τ : L2.St, L2.wipe (L2.wipe τ vs) vs = L2.wipe τ vs := fun τ => wipe_eq (L2.wipe_length τ vs) fun j hj => L2.wipe_out hj
  rw [← h1 σ]
  refine wipe_eq (by rw [List.length_set, h1, L2.wipe_length]) fun j hj => ?_
  rw [List.getElem?_set_ne (fun e : i = j => hj (e ▸ hi)), h1]
/-- the targets of comprehensions: the own slots alone are stored -/
def IGw (X : Cx) (cad : Cad) (tg : Expr) (g : TG) (m : MG) (vs : List Nat) : Prop := PG X tg g
def GW (K : PySem.W.Frag) (g : TG) (m : MG) (vs : List Nat) : Prop := ∀ (as : List Addr) (H : Hp) (d : D) (v : V) (ρ ρ' : Rho) (σ : L2.St) (Q : L2.St → Hp → Prop), VR K as H d v → ER K as H ρ σ → m d ρ = some ρ' →
  (∀ σ', ER K as H ρ' σ' → (L2.wipe σ' vs = L2.wipe σ vs) → Q σ' H) → g v σ H Q
theorem gw_name {K : PySem.W.Frag} {i : Nat} {vs : List Nat} (hi : i ∈ vs) : GW K (gName i) (mName i) vs := fun as H d v ρ ρ' σ Q r E e P => by
  cases e
  refine P _ (E.set r) (wipe_eq (by simp) fun j hj => ?_)
  rw [List.getElem?_set_ne (fun e : i = j => hj (e ▸ hi))]
def GWs (K : PySem.W.Frag) (g : TGs) (m : List D → Rho → Option Rho) (vs : List Nat) : Prop := ∀ (as : List Addr) (H : Hp) (ds : List D) (xs : List V) (ρ ρ' : Rho) (σ : L2.St) (Q : L2.St → Hp → Prop), VRs K as H ds xs → ER K as H ρ σ → m ds ρ = some ρ' →
  (∀ σ', ER K as H ρ' σ' → (L2.wipe σ' vs = L2.wipe σ vs) → Q σ' H) → g xs σ H Q
theorem gws_nil {K : PySem.W.Frag} {vs : List Nat} : GWs K gNil mNil vs := fun as H ds xs ρ ρ' σ Q r E e P => by
  cases r with
  | nil =>
    cases e
    exact ⟨rfl, P σ E rfl⟩
  | cons _ _ => cases e
theorem gws_cons {K : PySem.W.Frag} {g1 : TG} {g2 : TGs} {m : MG} {n : List D → Rho → Option Rho} {vs : List Nat} (h1 : GW K g1 m vs) (h2 : GWs K g2 n vs) : GWs K (gCons g1 g2) (mCons m n) vs := fun as H ds xs ρ ρ' σ Q r E e P => by
  cases r with
  | nil => cases e
  | @cons d ds v xs r t =>
    obtain ⟨ρ1, e1, e2⟩ := bind_some e
    exact ⟨v, xs, rfl, h1 as H d v ρ ρ1 σ _ r E e1 fun σ1 E1 w1 => h2 as H ds xs ρ1 ρ' σ1 Q t E1 e2 fun σ2 E2 w2 => P σ2 E2 (w2.trans w1)⟩
theorem gw_tup {K : PySem.W.Frag} {n : Nat} {g2 : TGs} {m : List D → Rho → Option Rho} {vs : List Nat} (h : GWs K g2 m vs) : GW K (gTup K n g2) (mTup n m) vs := fun as H d v ρ ρ' σ Q r E e P => by
  cases r with
  | @tup a xs ds hs rs =>
    simp only [mTup] at e
    split at e
    · rename_i hl
      exact ⟨a, xs, rfl, hs, by rw [← rs.length]; exact hl, h as H ds xs ρ ρ' σ Q rs E e P⟩
    · cases e
  | _ => cases e
def tYesM : MT := fun _ st => some (true, st)
open Classical in
/-- the turns: n the new list's place -/
noncomputable def loopC (chk : Sto → Prop) (m : MG) (t : MT) (f : ME) (ρ0 : Rho) (n : Nat) : List D → Sto → Option Sto
  | [] => fun st => if chk st then some st else none
  | d :: r => fun st => if chk st then (m d ρ0).bind fun ρ1 => (t ρ1 st).bind fun q => if q.1 = true then (f ρ1 q.2).bind fun z => match myL z.2 n with
      | some acc => if acc.length < LIM then loopC chk m t f ρ0 n r (z.2.set n (.lst (acc ++ [z.1]))) else none
      | none => none
      else loopC chk m t f ρ0 n r q.2
    else none
noncomputable def eLc (vs : List Nat) (fi : MI) (m : MG) (t : MT) (f : ME) : ME := fun ρ st => (fi ρ st).bind fun p => (loopC p.1.2 m t f (wipeD ρ vs) p.2.length p.1.1 (p.2 ++ [.lst []])).map fun st' => (.ref p.2.length, st')
theorem lc_to {K : PySem.W.Frag} {wi : TI} {fi : MI} {g1 : TG} {m : MG} {vs : List Nat} {tt : TT} (hi : ∀ σ H R, tII K cad fi σ H R → wi σ H R) (hg : GW K g1 m vs) (ht : ∀ σ H Q, tIT K cad t σ H Q → tt σ H Q)
    {σ : L2.St} {H : Hp} {Q : VK} (hw : tI K cad (eLc vs fi m t f) σ H Q) : tLc wi g1 tt (tI K cad f) vs σ H Q := by
  obtain ⟨as, st, ρ, d0, st', R, E, q, P⟩ := hw
  obtain ⟨⟨⟨ds, chk⟩, st1⟩, e1, q⟩ := bind_some q
  obtain ⟨stE, qe, q'⟩ := map_some q
  obtain ⟨rfl, rfl⟩ := Prod.mk.inj q'
  refine hi σ H _ ⟨as, st, ρ, ds, chk, st1, R, E, e1, fun as1 H1 J x1 R1 D1 => ?_⟩
  intro p hp
  have xp : Ext K as1 H1 (as1 ++ [p]) (upd H1 p (.lst [])) := Ext.fresh1 hp
  have Rp : Rel K cad (as1 ++ [p]) (st1 ++ [.lst []]) (upd H1 p (.lst [])) := R1.new hp ⟨[], upd_same, .nil⟩
  have ap : (as1 ++ [p])[st1.length]? = some p := by rw [← R1.len]; simp
  refine ⟨fun i n H2 => ∃ as2 st2, n = ds.length - i ∧ i ≤ ds.length ∧ Ext K (as1 ++ [p]) (upd H1 p (.lst [])) as2 H2 ∧ Rel K cad as2 st2 H2 ∧ loopC chk m t f (wipeD ρ vs) st1.length (ds.drop i) st2 = some stE,
    ⟨ds.length, as1 ++ [p], st1 ++ [Ob.lst []], rfl, Nat.zero_le _, .refl, Rp, qe⟩, ?_⟩
  rintro i n H2 ⟨as2, st2, rfl, hi2, x2, R2, q2⟩
  have Ew : ER K as2 H2 (wipeD ρ vs) (L2.wipe σ vs) := ((E.mono x1).mono (xp.trans x2)).wipe vs
  by_cases hlt : i < ds.length
  · rw [List.drop_eq_getElem_cons hlt] at q2
    simp only [loopC] at q2
    split at q2
    · rename_i hc
      obtain ⟨ρ3, e3, q2⟩ := bind_some q2
      obtain ⟨⟨k, st4⟩, e4, q2⟩ := bind_some q2
      obtain ⟨g1', g2'⟩ := D1.go as2 st2 H2 i ds[i] (xp.trans x2) R2 hc (List.getElem?_eq_getElem hlt)
      refine .inr ⟨g1', fun H5 => ∃ as5 st5, Ext K (as1 ++ [p]) (upd H1 p (.lst [])) as5 H5 ∧ Rel K cad as5 st5 H5 ∧ loopC chk m t f (wipeD ρ vs) st1.length (ds.drop (i + 1)) st5 = some stE, ?_, ?_⟩
      · rintro H5 ⟨as5, st5, x5, R5, q5⟩
        exact ⟨ds.length - (i + 1), by omega, as5, st5, rfl, hlt, x5, R5, q5⟩
      · intro x H3 hy
        obtain ⟨x3, R3, rv⟩ := g2' x H3 hy
        refine hg as2 H3 ds[i] x (wipeD ρ vs) ρ3 (L2.wipe σ vs) _ rv (Ew.mono x3) e3 fun σ3 E3 w3 => ⟨?_, ?_⟩
        · rw [w3]
          exact wipe_eq (L2.wipe_length σ vs) fun j hj => L2.wipe_out hj
        · refine ht _ _ _ (tIT_run R3 E3 e4 fun as4 H4 x4 R4 E4 => ?_)
          cases k with
          | true =>
            rw [if_pos rfl] at q2
            obtain ⟨⟨y, st5⟩, e5, q2⟩ := bind_some q2
            refine iteT (tI_run R4 E4 e5 fun as5 H5 v x5 R5 E5 r5 => ?_)
            simp only at q2
            split at q2
            · rename_i acc e6
              split at q2
              · rename_i hl
                have xx := (x2.trans (x3.trans (x4.trans x5)))
                have ap5 := xx.at ap
                obtain ⟨ws, hws, rws⟩ := R5.myL e6 ap5
                have e7 := myL_at e6
                obtain ⟨u0, q0, q1, q3⟩ := (R5.ob _ _ p e7 ap5).there rfl
                have x6 : Ext K as5 H5 as5 (upd H5 p (.lst (ws ++ [v]))) := ⟨⟨[], by simp⟩, fun b ys h => sqT_write q0 q1 q3 h⟩
                obtain ⟨R6, _⟩ := R5.write (u := .lst (ws ++ [v])) (o' := .lst (acc ++ [y])) e7 ap5 rfl rfl ⟨_, upd_same, (rws.append (.cons r5 .nil)).mono x6⟩
                exact ⟨ws, hws, by rw [← rws.length]; exact lim_lt hl, as5, _, xx.trans x6, R6, q2⟩
              · cases q2
            · cases q2
          | false => exact iteF ⟨as4, st4, x2.trans (x3.trans x4), R4, q2⟩
    · cases q2
  · have e : i = ds.length := by omega
    subst e
    rw [List.drop_length] at q2
    simp only [loopC] at q2
    split at q2
    · rename_i hc
      cases q2
      exact .inl ⟨D1.stop as2 _ H2 (xp.trans x2) R2 hc, P as2 H2 (.ref p) (x1.trans (xp.trans x2)) R2 (.ref (x2.at ap))⟩
    · cases q2
theorem tYes_to {K : PySem.W.Frag} : ∀ σ H Q, tIT K cad tYesM σ H Q → tYes σ H Q := fun σ H Q ⟨as, st, ρ, b, st', R, E, q, P⟩ => by
  cases q
  exact P as H .refl R
theorem ie_lc {elt it : Expr} {ifs : List Expr} {scope : Scope} {own : List (Str × Nat)} {wi : TI} {fi : MI} {g1 : TG} {m : MG} {tt : TT} (hc : X.calm = true) (hN : X.N.Nodup) (hi : II X cad tg it wi fi) (ok : BlkOk X.N X.env.scope scope own)
    (hg : ∀ (s : Shared) (H : Hp) (C : Addr) (cl : List (Str × Addr)) (fp : List Addr), PG (X.blk s H scope (compEnvC scope cl C X.env) fp) tg g1) (hw : GW X.K g1 m (own.map (·.2)))
    (ht : ∀ (s : Shared) (H : Hp) (C : Addr) (cl : List (Str × Addr)) (fp : List Addr), PTs (X.blk s H scope (compEnvC scope cl C X.env) fp) ifs tt) (htt : ∀ σ H Q, tIT X.K cad t σ H Q → tt σ H Q)
    (he : ∀ (s : Shared) (H : Hp) (C : Addr) (cl : List (Str × Addr)) (fp : List Addr), IE (X.blk s H scope (compEnvC scope cl C X.env) fp) cad elt f) (hs : ∀ x, foldedSetIterable it X.env x = pure x := by intro _; rfl) :
    IE X cad (.ListComp elt [⟨tg, it, ifs, 0⟩] scope pos) (eLc (own.map (·.2)) fi m t f) :=
  pe_weak (pe_lc (te := tI X.K cad f) hc hN hi.1 ok hg ht (fun s H C cl fp => he s H C cl fp) hs) fun _ _ _ h => lc_to hi.2 hw htt h
theorem is_setLc {i : Nat} {y : Str} {py spos : Pos} {elt it : Expr} {ifs : List Expr} {scope : Scope} {own : List (Str × Nat)} {wi : TI} {fi : MI} {g1 : TG} {m : MG} {tt : TT} (hc : X.calm = true) (hN : X.N.Nodup) (hy : X.N[i]? = some y) (hyl : X.env.scope.names.lookup y = some .local)
    (hsw : swapsWith (.ListComp elt [⟨tg, it, ifs, 0⟩] scope pos) (some (.Name y py)) spos.line X.env = pure true) (hi : II X cad tg it wi fi) (ok : BlkOk X.N X.env.scope scope own)
    (hg : ∀ (s : Shared) (H : Hp) (C : Addr) (cl : List (Str × Addr)) (fp : List Addr), PG (X.blk s H scope (compEnvC scope cl C X.env) fp) tg g1) (hw : GW X.K g1 m (own.map (·.2)))
    (ht : ∀ (s : Shared) (H : Hp) (C : Addr) (cl : List (Str × Addr)) (fp : List Addr), PTs (X.blk s H scope (compEnvC scope cl C X.env) fp) ifs tt) (htt : ∀ σ H Q, tIT X.K cad t σ H Q → tt σ H Q)
    (he : ∀ (s : Shared) (H : Hp) (C : Addr) (cl : List (Str × Addr)) (fp : List Addr), IE (X.blk s H scope (compEnvC scope cl C X.env) fp) cad elt f) (hs : ∀ x, foldedSetIterable it X.env x = pure x := by intro _; rfl) :
    ISt X cad (.Assign [.Name y py] (.ListComp elt [⟨tg, it, ifs, 0⟩] scope pos) spos) (sSet i (eLc (own.map (·.2)) fi m t f)) := by
  refine ps_weak (ps_setLc (te := tI X.K cad f) hc hN hy hyl hsw hi.1 ok hg ht (fun s H C cl fp => he s H C cl fp) hs) fun Dn σ H hw2 => ?_
  obtain ⟨as, st, ρ, fl, ρ', st', R, E, q, P⟩ := hw2
  obtain ⟨⟨x, st1⟩, e1, e2⟩ := map_some q
  cases e2
  exact lc_to hi.2 hw htt (tI_run R E e1 fun as1 H1 v x1 R1 E1 r1 => P as1 H1 _ x1 R1 (E1.set r1))

/-! ### bodies of defs -/
def mkFn (N ar : Nat) (u : MS) : FN := fun ds st => if ds.length = ar then match u (ds.map some ++ List.replicate (N - ar) none) st with
    | some (.rt d, _, st') => some (d, st')
    | some (.nx, _, st') => some (.non, st')
    | _ => none
  else none
theorem ER.start {K : PySem.W.Frag} {as : List Addr} {H : Hp} {ds : List D} {vs : List V} (r : VRs K as H ds vs) (n : Nat) : ER K as H (ds.map some ++ List.replicate n none) (vs.map some ++ List.replicate n none) := by
  refine ⟨by simp [r.length], fun i d e => ?_⟩
  by_cases hi : i < ds.length
  · rw [List.getElem?_append_left (by simpa using hi), List.getElem?_map] at e
    obtain ⟨d', e1, e2⟩ := map_some e
    cases e2
    obtain ⟨v, hv, rv⟩ := r.get e1
    refine ⟨v, ?_, rv⟩
    rw [List.getElem?_append_left (by simpa [← r.length] using hi), List.getElem?_map, hv]
    rfl
  · rw [List.getElem?_append_right (by simpa using hi)] at e
    have := List.mem_of_getElem? e
    rw [List.mem_replicate] at this
    cases this.2
/-- THE RULE: a def does what the mirror of its body tells -/
theorem fn_ok {P : Program} {w : World} {K : PySem.W.Frag} {mg : Str → Option Value} {base : Heap} {x qual : Str} {st : Stmt} {fa : Addr} {fd : FuncData} {N ps : List Str} {k : Nat} {u : MS} (F : Fun K x qual st fa fd) (S : FnScope N ps (defScope st))
    (hbody : ∀ (cdv : Value) (A : Around) (outer : List Env) (s : Shared) (H : Hp) (E : XK), Room k (A.deeper (envOfC qual (defScope st) s.heap.objs.size fa cdv)) → ISs (cxOf CX0 P w K mg base N qual (defScope st) fa cdv A outer s H E).nox cad (defBody st) u) :
    FnOk P w K mg base CX0 (k + 1) fa fd ps (spOf K cad (mkFn N.length ps.length u)) := by
  refine F.ok S (fun vs H Q E h => ?_) (fun cdv A outer s H vs Q E hr h => ?_)
  · obtain ⟨as, st, ds, d, st', R, r, e, _⟩ := h
    unfold mkFn at e
    split at e
    · rename_i hl
      rw [← r.length]
      exact hl
    · cases e
  · refine ⟨_, hbody cdv A outer s H E hr, ?_⟩
    obtain ⟨as, st, ds, d, st', R, r, e, P⟩ := h
    unfold mkFn at e
    split at e
    · rename_i hl
      have hst : L2.start N vs = vs.map some ++ List.replicate (N.length - ps.length) none := by
        unfold L2.start
        rw [← r.length, hl]
      rw [hst]
      split at e
      · rename_i d' ρ' st'' e1
        cases e
        refine ⟨as, st, _, _, ρ', _, R, ER.start r (N.length - ps.length), e1, fun as' H' σ' x R' E' v rv => P as' H' v x R' rv⟩
      · rename_i ρ' st'' e1
        cases e
        exact ⟨as, st, _, _, ρ', _, R, ER.start r (N.length - ps.length), e1, fun as' H' σ' x R' E' => P as' H' .non x R' .non⟩
      · cases e
    · cases e
end
end MP

set_option maxRecDepth 100000
/-! MP 9: a text's defs as facts; the law's end. -/
namespace MP
open PySem PySem.Spec PyProof.Rows L2

/-- a def of the text stands behind the top under its name -/
structure FnAt (K : PySem.W.Frag) (mg : Str → Option Value) (x : Str) (st : Stmt) (ps : List Str) : Prop where
  ex : ∃ (f : Addr) (fd : FuncData), mg x = some (.ref f) ∧ Fun K x x st f fd ∧ Binds K fd ps []
theorem fnAt_mk {K : PySem.W.Frag} {h : Heap} {mg : Str → Option Value} (X : K.In h) (G : h.Ns mainGlobals mg) {x : Str} {st : Stmt} {ps : List Str} {f : Addr} {od an : Option Addr} {sl : Array (Option Value)} {oc kV dc pm cd ct : Value}
    (a : PySem.W.nsIn K mainGlobals x = some (some (.ref f))) (l : K.lookup f = some ⟨oc, od, .func (PySem.W.fnOf x x (defArgs st) (defBody st) (defScope st) .none kV dc pm an cd ct), sl⟩) (c : PySem.W.codeIn K cd x = true) (k : PySem.W.keepIn K (.ref f) = true)
    (hb : ∀ (kV doc pm : Value) (an : Option Addr) (cdv ct : Value) (us : List Value), us.length = ps.length → bindArgs (PySem.W.fnOf x x (defArgs st) (defBody st) (defScope st) .none kV doc pm an cdv ct) ⟨us, []⟩ = pure (ps.zip us)) : FnAt K mg x st ps :=
  ⟨f, _, PySem.W.mg_of X G a, fun_mk l c k, (fun_mk l c k).binds hb⟩
section
variable {P : Program} {w : World} {K : PySem.W.Frag} {mg : Str → Option Value} {base : Heap} {cad : Cad}
theorem fn_fact {x : Str} {st : Stmt} {N ps : List Str} {k : Nat} {u : MS} (A : FnAt K mg x st ps) (S : FnScope N ps (defScope st))
    (hbody : ∀ (fa : Addr) (cdv : Value) (A : Around) (outer : List Env) (s : Shared) (H : Hp) (E : XK), Room k (A.deeper (envOfC x (defScope st) s.heap.objs.size fa cdv)) → ISs (cxOf CX0 P w K mg base N x (defScope st) fa cdv A outer s H E).nox cad (defBody st) u) :
    FnFact P w K mg base cad x (k + 1) [] (mkFn N.length ps.length u) := by
  obtain ⟨f, fd, hm, F, hb⟩ := A.ex
  exact ⟨f, fd, ps, [], [], fn_ok F S (fun cdv A outer s H E hr => hbody f cdv A outer s H E hr), hm, F.kp, hb, .nil, fun _ _ => .nil⟩
theorem fn_fact0 {x : Str} {st : Stmt} {ps : List Str} {k : Nat} (A : FnAt K mg x st ps) : FnFact P w K mg base cad x k [] (fun _ _ => none) := by
  obtain ⟨f, fd, hm, F, hb⟩ := A.ex
  refine ⟨f, fd, ps, [], [], ⟨fun vs H Q E h => ?_, fun A outer s H args us vs Q E hr he hb hv hs => ?_⟩, hm, F.kp, hb, .nil, fun _ _ => .nil⟩
  · obtain ⟨as, st, ds, d, st', R, r, e, _⟩ := h
    cases e
  · obtain ⟨as, st, ds, d, st', R, r, e, _⟩ := hs
    cases e
theorem FnFact.more {x : Str} {k k' : Nat} {dds : List D} {F : FN} (h : FnFact P w K mg base cad x k dds F) (hk : k ≤ k') : FnFact P w K mg base cad x k' dds F := by
  obtain ⟨f, fd, ps, dvs, dus, G, r⟩ := h.ex
  exact ⟨f, fd, ps, dvs, dus, G.mono hk, r⟩
end
/-- the law's def over the script alone tells True -/
def spLaw (K : PySem.W.Frag) : Sp := fun vs H Q _ => ∃ (a : Addr) (ns : List Int), vs = [.ref a] ∧ SqL K H a (ns.map V.int) ∧ Only H ∧ ns.length ≤ 63 ∧ ∀ H', Q (.bl true) H'
theorem law_imp {P : Program} {w : World} {K : PySem.W.Frag} {mg : Str → Option Value} {base : Heap} {cad : Cad} {k : Nat} {f : Addr} {fd : FuncData} {ps : List Str} {F : FN} (G : FnOk P w K mg base CX0 k f fd ps (spOf K cad F))
    (hlaw : ∀ ns : List Int, ns.length ≤ 63 → ∃ st', F [.ref 0] [.fz (ns.map D.int)] = some (.bl true, st')) : FnOk P w K mg base CX0 k f fd ps (spLaw K) := by
  refine G.imp fun vs H Q E h => ?_
  obtain ⟨a, ns, rfl, hs, ho, hl, q⟩ := h
  obtain ⟨st', e⟩ := hlaw ns hl
  refine ⟨[a], [.fz (ns.map D.int)], [.ref 0], .bl true, st', ⟨rfl, fun i j b o u h1 h2 h3 h4 h5 h6 => ?_, fun n o b h1 h2 => ?_⟩, .cons (.ref rfl) .nil, e, fun as' H' v x R' r => ?_⟩
  · cases i with
    | zero =>
      cases h3
      cases h5
    | succ i => simp at h3
  · cases n with
    | zero =>
      cases h1
      cases h2
      refine ⟨ns.map V.int, ?_, VRs.ints ns⟩
      rcases hs with (h | h) | h
      · rcases ho a with z | ⟨ob, xs, z⟩
        · rw [z] at h
          cases h
        · rw [z] at h
          cases h
      · exact .inl h
      · exact .inr fun H' => .inr h
    | succ n => simp at h1
  · cases r
    exact q H'
theorem walk {l : PySem.W.OpenLaw} {q : Program} {loose : List Str} {XP : (Str → Option Value) → Heap → Prop} {YP : World → Heap → Prop} {d : DefRec} {K : Params → PySem.W.Frag} {x : Str} {k : Nat} (hn : l.most = some 63) (hdf : d.params.defaults = []) (hr : Room k callerA)
    (hY : ∀ (w : World) (h : Heap), YP w h → (K w.params).In h)
    (F : ∀ (w : World) (mg : Str → Option Value) (fa : Addr) (h : Heap), (K w.params).In h → h.Ns mainGlobals mg → mg d.name = some (.ref fa) →
      ∃ fd : FuncData, (∀ (s : Shared) (u : Value), BindsTo s fd ⟨[u], []⟩ [(x, u)]) ∧ ∀ base : Heap, (K w.params).In base → base.Ns mainGlobals mg → FnOk l.prog w (K w.params) mg base CX0 k fa fd [x] (spLaw (K w.params))) :
    PySem.W.WalkO q loose XP YP l.row.toRowW d [] (fun f vs => PySem.call f vs) :=
  L2.walk_of (n := 63) (k := k) (x := x) (CX := fun _ => CX0) (sp := fun w => spLaw (K w.params)) hn (by decide) hdf hr hY F (fun _ _ a ns hl ho hS => ⟨a, ns, rfl, hS, ho, hl, fun _ => rfl⟩) fun _ _ _ _ _ z => z
end MP

set_option maxRecDepth 100000
/-! MP A: displays of dicts. -/
namespace MP
open PySem PySem.Spec PyProof.Rows L2
abbrev MPs := Rho → Sto → Option (List (D × D) × Sto)
inductive VR2 (K : PySem.W.Frag) (as : List Addr) (H : Hp) : List (D × D) → List (V × V) → Prop
  | nil : VR2 K as H [] []
  | cons {d e : D} {v w : V} {ps : List (D × D)} {qs : List (V × V)} : VR K as H d v → VR K as H e w → VR2 K as H ps qs → VR2 K as H ((d, e) :: ps) ((v, w) :: qs)
def tIP (K : PySem.W.Frag) (cad : Cad) (g : MPs) (σ : L2.St) (H : Hp) (k : List (V × V) → Hp → Prop) : Prop :=
  ∃ as st ρ ps st', Rel K cad as st H ∧ ER K as H ρ σ ∧ g ρ st = some (ps, st') ∧ ∀ as' H' qs, Ext K as H as' H' → Rel K cad as' st' H' → VR2 K as' H' ps qs → k qs H'
def IPs (X : Cx) (cad : Cad) (pos : Pos) (keys : List (Option Expr)) (values : List Expr) (trs : List (TE × TE)) (g : MPs) : Prop := PPs X pos keys values trs ∧ ∀ σ H k, tIP X.K cad g σ H k → tPairs trs σ H k
section
variable {X : Cx} {cad : Cad} {a b : Expr} {f h : ME} {pos : Pos} {ks : List (Option Expr)} {vs : List Expr} {trs : List (TE × TE)} {g : MPs}
def psNil : MPs := fun _ st => some ([], st)
def psCons (f h : ME) (g : MPs) : MPs := fun ρ st => (f ρ st).bind fun p => (h ρ p.2).bind fun q => (g ρ q.2).map fun r => ((p.1, q.1) :: r.1, r.2)
theorem ips_nil : IPs X cad pos [] [] [] psNil := ⟨pps_nil, fun σ H k ⟨as, st, ρ, ps, st', R, E, q, P⟩ => by
  cases q
  exact P as H [] .refl R .nil⟩
theorem ips_cons (ha : IE X cad a f) (hb : IE X cad b h) (hr : IPs X cad pos ks vs trs g) : IPs X cad pos (some a :: ks) (b :: vs) ((tI X.K cad f, tI X.K cad h) :: trs) (psCons f h g) := by
  refine ⟨pps_cons ha hb hr.1, fun σ H k ⟨as, st, ρ, ps, st', R, E, q, P⟩ => ?_⟩
  obtain ⟨⟨x, st1⟩, e1, q⟩ := bind_some q
  obtain ⟨⟨y, st2⟩, e2, q⟩ := bind_some q
  obtain ⟨⟨r, st3⟩, e3, q⟩ := map_some q
  cases q
  exact tI_run R E e1 fun as1 H1 v x1 R1 E1 r1 => tI_run R1 E1 e2 fun as2 H2 w x2 R2 E2 r2 => hr.2 σ H2 _ ⟨as2, st2, ρ, r, st3, R2, E2, e3, fun as3 H3 qs x3 R3 r3 =>
    P as3 H3 ((v, w) :: qs) (x1.trans (x2.trans x3)) R3 (.cons (r1.mono (x2.trans x3)) (r2.mono x3) r3)⟩
def keysO : List (D × D) → Option (List (Key × D))
  | [] => some []
  | p :: r => (keyOf p.1).bind fun k => (keysO r).map fun s => (k, p.2) :: s
def mergeD (kvs more : List (Key × D)) : List (Key × D) := more.foldl (fun acc kv => putD acc kv.1 kv.2) kvs
theorem KVR.merge {K : PySem.W.Frag} {as : List Addr} {H : Hp} {more : List (Key × D)} {ms : List (Key × V)} (r : KVR K as H more ms) : ∀ {kvs : List (Key × D)} {xs : List (Key × V)}, KVR K as H kvs xs → KVR K as H (mergeD kvs more) (mergeK xs ms) := by
  induction r with
  | nil => intro _ _ q; exact q
  | @cons p q ps qs h _ ih =>
    intro kvs xs r0
    have e := r0.put p.1 h.2
    show KVR K as H (mergeD (putD kvs p.1 p.2) ps) (mergeK (putK xs q.1 q.2) qs)
    rw [← h.1]
    exact ih e
theorem keysO_to {K : PySem.W.Frag} {as : List Addr} {H : Hp} : ∀ {ps : List (D × D)} {qs : List (V × V)} {kvs : List (Key × D)}, VR2 K as H ps qs → keysO ps = some kvs → ∃ xs : List (Key × V), qs = xs.map (fun kv => (kV kv.1, kv.2)) ∧ KVR K as H kvs xs ∧ xs.length = kvs.length
  | _, _, _, .nil, e => by
    cases e
    exact ⟨[], rfl, .nil, rfl⟩
  | _, _, _, .cons (d := d) (e := e') (v := v) (w := w) r1 r2 t, e => by
    obtain ⟨k, e1, e2⟩ := bind_some e
    obtain ⟨s, e3, rfl⟩ := map_some e2
    obtain ⟨xs, h1, h2, h3⟩ := keysO_to t e3
    refine ⟨(k, w) :: xs, ?_, .cons ⟨rfl, r2⟩ h2, by simp [h3]⟩
    rw [h1, List.map_cons, keyOf_is r1 e1]
def eDisp (g : MPs) : ME := fun ρ st => (g ρ (st ++ [.dic []])).bind fun p => (keysO p.1).bind fun kvs => match myD p.2 st.length with
  | some [] => if kvs.length ≤ 15 then some (.ref st.length, p.2.set st.length (.dic (mergeD [] kvs))) else none
  | _ => none
theorem ie_disp (hp : IPs X cad pos ks vs trs g) (hall : ks.all (·.isSome) = true) (hl : ks.length = vs.length) (h0 : ks ≠ []) (h15 : ks.length ≤ 15) : IE X cad (.Dict ks vs pos) (eDisp g) := by
  refine pe_weak (pe_disp hp.1 hall hl h0 h15) fun σ H Q => ?_
  rintro ⟨as, st, ρ, d, st', R, E, q, P⟩
  obtain ⟨⟨ps, st1⟩, e1, q⟩ := bind_some q
  obtain ⟨kvs, e2, q⟩ := bind_some q
  intro p hpn
  have xp : Ext X.K as H (as ++ [p]) (upd H p (.dK [])) := Ext.fresh1 hpn
  have Rp : Rel X.K cad (as ++ [p]) (st ++ [.dic []]) (upd H p (.dK [])) := R.new hpn ⟨[], upd_same, .nil⟩
  have ap : (as ++ [p])[st.length]? = some p := by rw [← R.len]; simp
  refine hp.2 σ _ _ ⟨as ++ [p], st ++ [.dic []], ρ, ps, st1, Rp, E.mono xp, e1, fun as1 H1 qs x1 R1 r1 => ?_⟩
  simp only at q
  split at q
  · rename_i e3
    split at q
    · rename_i hz
      cases q
      have ap1 := x1.at ap
      obtain ⟨ws, hw, rw'⟩ := R1.myD e3 ap1
      cases rw'
      obtain ⟨xs, h1, h2, h3⟩ := keysO_to r1 e2
      refine ⟨hw, xs, h1, by omega, ?_⟩
      have e4 := myD_at e3
      obtain ⟨u0, q0, q1, q2⟩ := (R1.ob _ _ p e4 ap1).there rfl
      have x2 : Ext X.K as1 H1 as1 (upd H1 p (.dK (mergeK [] xs))) := ⟨⟨[], by simp⟩, fun b ys h => sqT_write q0 q1 q2 h⟩
      obtain ⟨R2, _⟩ := R1.write (u := .dK (mergeK [] xs)) (o' := .dic (mergeD [] kvs)) e4 ap1 rfl rfl ⟨_, upd_same, Paired.map2 (fun _ _ z => ⟨z.1, z.2.mono x2⟩) (h2.merge .nil)⟩
      exact P as1 _ (.ref p) (xp.trans (x1.trans x2)) R2 (.ref ap1)
    · cases q
  · cases q
end
end MP

set_option maxRecDepth 100000
/-! MP B: how mirrors are reckoned, step by step (each row by rfl): what comes first is reckoned first. -/
namespace MP
open PySem PySem.Spec L2
section
variable {o o' : O2} {u1 : D → Sto → Option (D × Sto)} {f g h : ME} {ga : MA} {t t' : MT} {u v : MS} {ρ ρ' : Rho} {st : Sto} {d e x y : D} {ds : List D} {b : Bool} {F : FN} {i j l N : Nat} {m : MG} {fi : MI}
/-! names, constants -/
def kVar (st : Sto) : Option (Option D) → Option (D × Sto)
  | some (some d) => some (d, st)
  | _ => none
theorem eVar_at : eVar i ρ st = kVar st ρ[i]? := by
  unfold eVar
  cases ρ[i]? with
  | none => rfl
  | some o => cases o <;> rfl
theorem kVar_some : kVar st (some (some d)) = some (d, st) := rfl
theorem eC_at : eC d ρ st = some (d, st) := rfl
/-! operations -/
def k3 (o : O2) (d : D) (r : Option (D × Sto)) : Option (D × Sto) := r.bind fun q => o d q.1 q.2
def k2 (o : O2) (g : ME) (ρ : Rho) (r : Option (D × Sto)) : Option (D × Sto) := r.bind fun p => (g ρ p.2).bind fun q => o p.1 q.1 q.2
theorem eBin_at : eBin o f g ρ st = k2 o g ρ (f ρ st) := rfl
theorem k2_some : k2 o g ρ (some (d, st)) = k3 o d (g ρ st) := rfl
theorem k3_some : k3 o d (some (e, st)) = o d e st := rfl
def k1 (u1 : D → Sto → Option (D × Sto)) (r : Option (D × Sto)) : Option (D × Sto) := r.bind fun p => u1 p.1 p.2
theorem eUn_at : eUn u1 f ρ st = k1 u1 (f ρ st) := rfl
theorem k1_some : k1 u1 (some (d, st)) = u1 d st := rfl
/-- a value, the store as it is -/
def kVal (st : Sto) (r : Option D) : Option (D × Sto) := r.map fun d => (d, st)
theorem kVal_some : kVal st (some d) = some (d, st) := rfl
def kBl (st : Sto) (r : Option Bool) : Option (D × Sto) := r.map fun b => (.bl b, st)
theorem kBl_some : kBl st (some b) = some (.bl b, st) := rfl
theorem kEq_at : kEq x y st = kBl st (eqO st x y) := rfl
def kBlN (st : Sto) (r : Option Bool) : Option (D × Sto) := r.map fun b => (.bl (!b), st)
theorem kBlN_some : kBlN st (some b) = some (.bl (!b), st) := rfl
theorem kNe_at : kNe x y st = kBlN st (eqO st x y) := rfl
theorem kIn_at : kIn false x y st = kBl st (inO st x y) := rfl
theorem kNotIn_at : kIn true x y st = kBlN st (inO st x y) := rfl
theorem kIx_at : kIx x y st = kVal st (ixO x y st) := rfl
theorem ixO_tup {k : Int} : ixO (.tup ds) (.int k) st = atI ds k := rfl
theorem kLt_int {k n : Int} : kLt (.int k) (.int n) st = some (.bl (decide (k < n)), st) := rfl
theorem kLe_int {k n : Int} : kLe (.int k) (.int n) st = some (.bl (decide (k ≤ n)), st) := rfl
theorem kGt_int {k n : Int} : kGt (.int k) (.int n) st = some (.bl (decide (n < k)), st) := rfl
theorem kGe_int {k n : Int} : kGe (.int k) (.int n) st = some (.bl (decide (n ≤ k)), st) := rfl
theorem kLt_str {k n : List Nat} : kLt (.str k) (.str n) st = some (.bl (decide (k < n)), st) := rfl
theorem kLe_str {k n : List Nat} : kLe (.str k) (.str n) st = some (.bl (!decide (n < k)), st) := rfl
theorem kGt_str {k n : List Nat} : kGt (.str k) (.str n) st = some (.bl (decide (n < k)), st) := rfl
theorem kGe_str {k n : List Nat} : kGe (.str k) (.str n) st = some (.bl (!decide (k < n)), st) := rfl
theorem kIs_non : kIs .non .non st = some (.bl true, st) := rfl
theorem kIs_bl : kIs (.bl b) .non st = some (.bl false, st) := rfl
theorem kIs_int {k : Int} : kIs (.int k) .non st = some (.bl false, st) := rfl
theorem kIs_str {k : List Nat} : kIs (.str k) .non st = some (.bl false, st) := rfl
theorem kIs_tup : kIs (.tup ds) .non st = some (.bl false, st) := rfl
theorem kIs_ref : kIs (.ref i) .non st = some (.bl false, st) := rfl
theorem kIsNot_non : kIsNot .non .non st = some (.bl false, st) := rfl
theorem kIsNot_bl : kIsNot (.bl b) .non st = some (.bl true, st) := rfl
theorem kIsNot_int {k : Int} : kIsNot (.int k) .non st = some (.bl true, st) := rfl
theorem kIsNot_str {k : List Nat} : kIsNot (.str k) .non st = some (.bl true, st) := rfl
theorem kIsNot_tup : kIsNot (.tup ds) .non st = some (.bl true, st) := rfl
theorem kIsNot_ref : kIsNot (.ref i) .non st = some (.bl true, st) := rfl
theorem opAdd_int {k n : Int} : opAdd (.int k) (.int n) st = some (.int (k + n), st) := rfl
theorem opAdd_str {k n : List Nat} : opAdd (.str k) (.str n) st = if k.length + n.length ≤ LIM then some (.str (k ++ n), st) else none := rfl
theorem opSub_int {k n : Int} : opSub (.int k) (.int n) st = some (.int (k - n), st) := rfl
theorem opMul_int {k n : Int} : opMul (.int k) (.int n) st = if cMul k n then some (.int (k * n), st) else none := rfl
theorem opDiv_int {k n : Int} : opDiv (.int k) (.int n) st = if cDiv k n then some (.int (gDiv k n), st) else none := rfl
theorem opMod_int {k n : Int} : opMod (.int k) (.int n) st = if cMod k n then some (.int (gMod k n), st) else none := rfl
theorem opPow_int {k n : Int} : opPow (.int k) (.int n) st = if cPow k n then some (.int (k ^ n.toNat), st) else none := rfl
theorem opAnd_int {k n : Int} : opAnd (.int k) (.int n) st = some (.int (Builtin.bitAnd k n), st) := rfl
theorem opOr_int {k n : Int} : opOr (.int k) (.int n) st = some (.int (Builtin.bitOr k n), st) := rfl
theorem opNeg_int {k : Int} : opNeg (.int k) st = some (.int (-k), st) := rfl
/-! chains -/
def kc4 (o' : O2) (y : D) (r : Option (D × Sto)) : Option (D × Sto) := r.bind fun z => o' y z.1 z.2
def kc3 (o' : O2) (h : ME) (ρ : Rho) (y : D) (r : Option (D × Sto)) : Option (D × Sto) := r.bind fun r => match r.1 with
  | .bl true => (h ρ r.2).bind fun z => o' y z.1 z.2
  | .bl false => some (.bl false, r.2)
  | _ => none
def kc2 (o o' : O2) (h : ME) (ρ : Rho) (x : D) (r : Option (D × Sto)) : Option (D × Sto) := r.bind fun y => kc3 o' h ρ y.1 (o x y.1 y.2)
def kc1 (o o' : O2) (g h : ME) (ρ : Rho) (r : Option (D × Sto)) : Option (D × Sto) := r.bind fun x => kc2 o o' h ρ x.1 (g ρ x.2)
theorem eChain_at : eChain o o' f g h ρ st = kc1 o o' g h ρ (f ρ st) := rfl
theorem kc1_some : kc1 o o' g h ρ (some (x, st)) = kc2 o o' h ρ x (g ρ st) := rfl
theorem kc2_some : kc2 o o' h ρ x (some (y, st)) = kc3 o' h ρ y (o x y st) := rfl
theorem kc3_true : kc3 o' h ρ y (some (.bl true, st)) = kc4 o' y (h ρ st) := rfl
theorem kc3_false : kc3 o' h ρ y (some (.bl false, st)) = some (.bl false, st) := rfl
theorem kc4_some : kc4 o' y (some (d, st)) = o' y d st := rfl
/-! truth -/
def kTru2 (st : Sto) (r : Option Bool) : Option (Bool × Sto) := r.map fun b => (b, st)
def kTru (r : Option (D × Sto)) : Option (Bool × Sto) := r.bind fun p => kTru2 p.2 (truD p.2 p.1)
theorem tOf_at : tOf f ρ st = kTru (f ρ st) := rfl
theorem kTru_some : kTru (some (d, st)) = kTru2 st (truD st d) := rfl
theorem kTru2_some : kTru2 st (some b) = some (b, st) := rfl
theorem truD_non : truD st .non = some false := rfl
theorem truD_bl : truD st (.bl b) = some b := rfl
theorem truD_int {k : Int} : truD st (.int k) = some (k != 0) := rfl
theorem truD_tup : truD st (.tup ds) = some (!ds.isEmpty) := rfl
def kAnd (t : MT) (ρ : Rho) (r : Option (Bool × Sto)) : Option (Bool × Sto) := r.bind fun p => if p.1 = true then t ρ p.2 else some (false, p.2)
def kOr (t : MT) (ρ : Rho) (r : Option (Bool × Sto)) : Option (Bool × Sto) := r.bind fun p => if p.1 = true then some (true, p.2) else t ρ p.2
def kNot (r : Option (Bool × Sto)) : Option (Bool × Sto) := r.map fun p => (!p.1, p.2)
theorem tAnd_at : tAnd t t' ρ st = kAnd t' ρ (t ρ st) := rfl
theorem kAnd_true : kAnd t ρ (some (true, st)) = t ρ st := rfl
theorem kAnd_false : kAnd t ρ (some (false, st)) = some (false, st) := rfl
theorem tOr_at : tOr t t' ρ st = kOr t' ρ (t ρ st) := rfl
theorem kOr_true : kOr t ρ (some (true, st)) = some (true, st) := rfl
theorem kOr_false : kOr t ρ (some (false, st)) = t ρ st := rfl
theorem tNot_at : tNot t ρ st = kNot (t ρ st) := rfl
theorem kNot_some : kNot (some (b, st)) = some (!b, st) := rfl
theorem tYes_at : tYesM ρ st = some (true, st) := rfl
def keAnd2 (g : ME) (ρ : Rho) (d : D) (st : Sto) (r : Option Bool) : Option (D × Sto) := r.bind fun k => if k = true then g ρ st else some (d, st)
def keAnd (g : ME) (ρ : Rho) (r : Option (D × Sto)) : Option (D × Sto) := r.bind fun p => keAnd2 g ρ p.1 p.2 (truD p.2 p.1)
theorem eAnd_at : eAnd f g ρ st = keAnd g ρ (f ρ st) := rfl
theorem keAnd_some : keAnd g ρ (some (d, st)) = keAnd2 g ρ d st (truD st d) := rfl
theorem keAnd2_true : keAnd2 g ρ d st (some true) = g ρ st := rfl
theorem keAnd2_false : keAnd2 g ρ d st (some false) = some (d, st) := rfl
def keOr2 (g : ME) (ρ : Rho) (d : D) (st : Sto) (r : Option Bool) : Option (D × Sto) := r.bind fun k => if k = true then some (d, st) else g ρ st
def keOr (g : ME) (ρ : Rho) (r : Option (D × Sto)) : Option (D × Sto) := r.bind fun p => keOr2 g ρ p.1 p.2 (truD p.2 p.1)
theorem eOr_at : eOr f g ρ st = keOr g ρ (f ρ st) := rfl
theorem keOr_some : keOr g ρ (some (d, st)) = keOr2 g ρ d st (truD st d) := rfl
theorem keOr2_true : keOr2 g ρ d st (some true) = some (d, st) := rfl
theorem keOr2_false : keOr2 g ρ d st (some false) = g ρ st := rfl
def keNot2 (st : Sto) (r : Option Bool) : Option (D × Sto) := r.map fun k => (.bl (!k), st)
def keNot (r : Option (D × Sto)) : Option (D × Sto) := r.bind fun p => keNot2 p.2 (truD p.2 p.1)
theorem eNot_at : eNot f ρ st = keNot (f ρ st) := rfl
theorem keNot_some : keNot (some (d, st)) = keNot2 st (truD st d) := rfl
theorem keNot2_some : keNot2 st (some b) = some (.bl (!b), st) := rfl
def keIf (f g : ME) (ρ : Rho) (r : Option (Bool × Sto)) : Option (D × Sto) := r.bind fun p => if p.1 = true then f ρ p.2 else g ρ p.2
theorem eIf_at : eIf t f g ρ st = keIf f g ρ (t ρ st) := rfl
theorem keIf_true : keIf f g ρ (some (true, st)) = f ρ st := rfl
theorem keIf_false : keIf f g ρ (some (false, st)) = g ρ st := rfl
/-! displays, calls -/
def ka2 (d : D) (r : Option (List D × Sto)) : Option (List D × Sto) := r.bind fun q => some (d :: q.1, q.2)
def ka1 (g : MA) (ρ : Rho) (r : Option (D × Sto)) : Option (List D × Sto) := r.bind fun p => ka2 p.1 (g ρ p.2)
theorem aNil_at : aNil ρ st = some ([], st) := rfl
theorem aCons_at : aCons f ga ρ st = ka1 ga ρ (f ρ st) := rfl
theorem ka1_some : ka1 ga ρ (some (d, st)) = ka2 d (ga ρ st) := rfl
theorem ka2_some : ka2 d (some (ds, st)) = some (d :: ds, st) := rfl
def kTup (r : Option (List D × Sto)) : Option (D × Sto) := r.bind fun p => if p.1.length ≤ LIM then some (.tup p.1, p.2) else none
theorem eTup_at : eTup ga ρ st = kTup (ga ρ st) := rfl
theorem kTup_some : kTup (some (ds, st)) = if ds.length ≤ LIM then some (.tup ds, st) else none := rfl
theorem kTup_0 : kTup (some ([], st)) = some (.tup [], st) := rfl
theorem kTup_1 {a : D} : kTup (some ([a], st)) = some (.tup [a], st) := rfl
theorem kTup_2 {a b : D} : kTup (some ([a, b], st)) = some (.tup [a, b], st) := rfl
theorem kTup_3 {a b c : D} : kTup (some ([a, b, c], st)) = some (.tup [a, b, c], st) := rfl
theorem kTup_4 {a b c d : D} : kTup (some ([a, b, c, d], st)) = some (.tup [a, b, c, d], st) := rfl
theorem kTup_5 {a b c d e : D} : kTup (some ([a, b, c, d, e], st)) = some (.tup [a, b, c, d, e], st) := rfl
theorem kTup_6 {a b c d e f : D} : kTup (some ([a, b, c, d, e, f], st)) = some (.tup [a, b, c, d, e, f], st) := rfl
def kLst (r : Option (List D × Sto)) : Option (D × Sto) := r.bind fun p => if p.1.length ≤ LIM then some (.ref p.2.length, p.2 ++ [.lst p.1]) else none
theorem eLst_at : eLst ga ρ st = kLst (ga ρ st) := rfl
theorem kLst_some : kLst (some (ds, st)) = if ds.length ≤ LIM then some (.ref st.length, st ++ [.lst ds]) else none := rfl
theorem kLst_0 : kLst (some ([], st)) = some (.ref st.length, st ++ [.lst []]) := rfl
theorem kLst_1 {a : D} : kLst (some ([a], st)) = some (.ref st.length, st ++ [.lst [a]]) := rfl
theorem kLst_2 {a b : D} : kLst (some ([a, b], st)) = some (.ref st.length, st ++ [.lst [a, b]]) := rfl
theorem kLst_3 {a b c : D} : kLst (some ([a, b, c], st)) = some (.ref st.length, st ++ [.lst [a, b, c]]) := rfl
theorem kLst_4 {a b c d : D} : kLst (some ([a, b, c, d], st)) = some (.ref st.length, st ++ [.lst [a, b, c, d]]) := rfl
theorem eDic0_at : eDic0 ρ st = some (.ref st.length, st ++ [.dic []]) := rfl
def kCall (F : FN) (r : Option (List D × Sto)) : Option (D × Sto) := r.bind fun p => F p.1 p.2
theorem eCall_at : eCall F ga ρ st = kCall F (ga ρ st) := rfl
theorem kCall_some : kCall F (some (ds, st)) = F ds st := rfl
theorem o1_at {o : D → Sto → Option D} : o1 o [d] st = kVal st (o d st) := rfl
def kIsi (ns : List Ty) (st : Sto) (r : Option Ty) : Option (D × Sto) := r.map fun t => (.bl (ns.any fun n => t.isa n), st)
theorem isiO_at {ns : List Ty} : isiO ns d st = kIsi ns st (tyD st d) := rfl
theorem kIsi_some {ns : List Ty} {t : Ty} : kIsi ns st (some t) = some (.bl (ns.any fun n => t.isa n), st) := rfl
theorem tyD_non : tyD st .non = some .non := rfl
theorem tyD_bl : tyD st (.bl b) = some .bl := rfl
theorem tyD_int {k : Int} : tyD st (.int k) = some .int := rfl
theorem tyD_str {k : List Nat} : tyD st (.str k) = some .str := rfl
theorem tyD_tup : tyD st (.tup ds) = some .tup := rfl
/-! methods -/
def kbm2 (o : D → FN) (d : D) (r : Option (List D × Sto)) : Option (D × Sto) := r.bind fun q => o d q.1 q.2
def kbm1 (chk : Sto → D → Bool) (o : D → FN) (ga : MA) (ρ : Rho) (r : Option (D × Sto)) : Option (D × Sto) := r.bind fun p => if chk p.2 p.1 = true then kbm2 o p.1 (ga ρ p.2) else none
theorem eBM_at {chk : Sto → D → Bool} {o : D → FN} : eBM chk o f ga ρ st = kbm1 chk o ga ρ (f ρ st) := rfl
theorem kbm1_some {chk : Sto → D → Bool} {o : D → FN} : kbm1 chk o ga ρ (some (d, st)) = if chk st d = true then kbm2 o d (ga ρ st) else none := rfl
theorem kbm2_some {o : D → FN} : kbm2 o d (some (ds, st)) = o d ds st := rfl
/-! slices -/
def ks4 (x : D) (lo : Option Int) (r : Option (Option Int × Sto)) : Option (D × Sto) := r.bind fun z => slO x lo z.1 z.2
def ks3 (q : MO) (ρ : Rho) (x : D) (r : Option (Option Int × Sto)) : Option (D × Sto) := r.bind fun y => ks4 x y.1 (q ρ y.2)
def ks2 (p q : MO) (ρ : Rho) (r : Option (D × Sto)) : Option (D × Sto) := r.bind fun x => ks3 q ρ x.1 (p ρ x.2)
theorem eSl_at {p q : MO} : eSl f p q ρ st = ks2 p q ρ (f ρ st) := rfl
theorem ks2_some {p q : MO} : ks2 p q ρ (some (x, st)) = ks3 q ρ x (p ρ st) := rfl
theorem ks3_some {q : MO} {lo : Option Int} : ks3 q ρ x (some (lo, st)) = ks4 x lo (q ρ st) := rfl
theorem ks4_some {lo hi : Option Int} : ks4 x lo (some (hi, st)) = slO x lo hi st := rfl
def kSome (r : Option (D × Sto)) : Option (Option Int × Sto) := r.bind fun p => match p.1 with
  | .int i => some (some i, p.2)
  | _ => none
theorem oNone_at : oNone ρ st = some (none, st) := rfl
theorem oSome_at : oSome f ρ st = kSome (f ρ st) := rfl
theorem kSome_int {k : Int} : kSome (some (.int k, st)) = some (some k, st) := rfl
theorem slO_str {k : List Nat} {lo hi : Option Int} : slO (.str k) lo hi st = if k.length ≤ LIM then some (.str (cutG k lo hi), st) else none := rfl
/-! statements -/
abbrev RS := Option (Fl × Rho × Sto)
def kSeq (v : MS) (r : RS) : RS := r.bind fun q => match q.1 with
  | .nx => v q.2.1 q.2.2
  | _ => some q
theorem sSeq_at : sSeq u v ρ st = kSeq v (u ρ st) := rfl
theorem kSeq_nx : kSeq v (some (.nx, ρ, st)) = v ρ st := rfl
theorem kSeq_rt : kSeq v (some (.rt d, ρ, st)) = some (.rt d, ρ, st) := rfl
theorem kSeq_bk : kSeq v (some (.bk, ρ, st)) = some (.bk, ρ, st) := rfl
theorem kSeq_ct : kSeq v (some (.ct, ρ, st)) = some (.ct, ρ, st) := rfl
theorem sNext_at : sNext ρ st = some (.nx, ρ, st) := rfl
theorem sBreak_at : sBreak ρ st = some (.bk, ρ, st) := rfl
theorem sCont_at : sCont ρ st = some (.ct, ρ, st) := rfl
theorem sRetN_at : sRetN ρ st = some (.rt .non, ρ, st) := rfl
def kRet (ρ : Rho) (r : Option (D × Sto)) : RS := r.map fun p => (.rt p.1, ρ, p.2)
theorem sRet_at : sRet f ρ st = kRet ρ (f ρ st) := rfl
theorem kRet_some : kRet ρ (some (d, st)) = some (.rt d, ρ, st) := rfl
def kExpr (ρ : Rho) (r : Option (D × Sto)) : RS := r.map fun p => (.nx, ρ, p.2)
theorem sExpr_at : sExpr f ρ st = kExpr ρ (f ρ st) := rfl
theorem kExpr_some : kExpr ρ (some (d, st)) = some (.nx, ρ, st) := rfl
def kSet (i : Nat) (ρ : Rho) (r : Option (D × Sto)) : RS := r.map fun p => (.nx, ρ.set i (some p.1), p.2)
theorem sSet_at : sSet i f ρ st = kSet i ρ (f ρ st) := rfl
theorem kSet_some : kSet i ρ (some (d, st)) = some (.nx, ρ.set i (some d), st) := rfl
def kIf (u v : MS) (ρ : Rho) (r : Option (Bool × Sto)) : RS := r.bind fun p => if p.1 = true then u ρ p.2 else v ρ p.2
theorem sIf_at : sIf t u v ρ st = kIf u v ρ (t ρ st) := rfl
theorem kIf_true : kIf u v ρ (some (true, st)) = u ρ st := rfl
theorem kIf_false : kIf u v ρ (some (false, st)) = v ρ st := rfl
def kPar2 (i j : Nat) (ρ : Rho) (r : Option (List D × Sto)) : RS := r.bind fun p => match p.1 with
  | [x, y] => some (.nx, (ρ.set i (some x)).set j (some y), p.2)
  | _ => none
theorem sPar2_k : sPar2 i j ga ρ st = kPar2 i j ρ (ga ρ st) := rfl
theorem kPar2_some : kPar2 i j ρ (some ([x, y], st)) = some (.nx, (ρ.set i (some x)).set j (some y), st) := rfl
def kPar3 (i j l : Nat) (ρ : Rho) (r : Option (List D × Sto)) : RS := r.bind fun p => match p.1 with
  | [x, y, z] => some (.nx, ((ρ.set i (some x)).set j (some y)).set l (some z), p.2)
  | _ => none
theorem sPar3_k : sPar3 i j l ga ρ st = kPar3 i j l ρ (ga ρ st) := rfl
theorem kPar3_some : kPar3 i j l ρ (some ([x, y, d], st)) = some (.nx, ((ρ.set i (some x)).set j (some y)).set l (some d), st) := rfl
def kAsg2 (st : Sto) (r : Option Rho) : RS := r.map fun ρ' => (.nx, ρ', st)
def kAsg (m : MG) (ρ : Rho) (r : Option (D × Sto)) : RS := r.bind fun p => kAsg2 p.2 (m p.1 ρ)
theorem sAsg_at : sAsg f m ρ st = kAsg m ρ (f ρ st) := rfl
theorem kAsg_some : kAsg m ρ (some (d, st)) = kAsg2 st (m d ρ) := rfl
theorem kAsg2_some : kAsg2 st (some ρ) = some (.nx, ρ, st) := rfl
theorem mName_at : mName i d ρ = some (ρ.set i (some d)) := rfl
theorem mTup_at {n : Nat} {w : List D → Rho → Option Rho} : mTup n w (.tup ds) ρ = if ds.length = n then w ds ρ else none := rfl
theorem mTup_2 {a b : D} {w : List D → Rho → Option Rho} : mTup 2 w (.tup [a, b]) ρ = w [a, b] ρ := rfl
theorem mTup_3 {a b c : D} {w : List D → Rho → Option Rho} : mTup 3 w (.tup [a, b, c]) ρ = w [a, b, c] ρ := rfl
def kmCons (n : List D → Rho → Option Rho) (ds : List D) (r : Option Rho) : Option Rho := r.bind fun ρ1 => n ds ρ1
theorem mCons_at {w : List D → Rho → Option Rho} : mCons m w (d :: ds) ρ = kmCons w ds (m d ρ) := rfl
theorem kmCons_some {w : List D → Rho → Option Rho} : kmCons w ds (some ρ) = w ds ρ := rfl
theorem mNil_at : mNil [] ρ = some ρ := rfl
def kp4 (ρ : Rho) (r : Option Sto) : RS := r.map fun st' => (.nx, ρ, st')
def kp3 (ρ : Rho) (d x : D) (r : Option (D × Sto)) : RS := r.bind fun y => kp4 ρ (setO x y.1 d y.2)
def kp2 (fi : ME) (ρ : Rho) (d : D) (r : Option (D × Sto)) : RS := r.bind fun x => kp3 ρ d x.1 (fi ρ x.2)
def kp1 (fo fi : ME) (ρ : Rho) (r : Option (D × Sto)) : RS := r.bind fun p => kp2 fi ρ p.1 (fo ρ p.2)
theorem sPut_at {fo fi : ME} : sPut fo fi f ρ st = kp1 fo fi ρ (f ρ st) := rfl
theorem kp1_some {fo fi : ME} : kp1 fo fi ρ (some (d, st)) = kp2 fi ρ d (fo ρ st) := rfl
theorem kp2_some {fi : ME} : kp2 fi ρ d (some (x, st)) = kp3 ρ d x (fi ρ st) := rfl
theorem kp3_some : kp3 ρ d x (some (y, st)) = kp4 ρ (setO x y d st) := rfl
theorem kp4_some : kp4 ρ (some st) = some (.nx, ρ, st) := rfl
/-! bodies -/
def kFn (r : RS) : Option (D × Sto) := match r with
  | some (.rt d, _, st') => some (d, st')
  | some (.nx, _, st') => some (.non, st')
  | _ => none
theorem kFn_rt : kFn (some (.rt d, ρ, st)) = some (d, st) := rfl
theorem kFn_nx : kFn (some (.nx, ρ, st)) = some (.non, st) := rfl
theorem mkFn_0 : mkFn N 0 u [] st = kFn (u (List.replicate N none) st) := rfl
theorem mkFn_1 {a : D} : mkFn N 1 u [a] st = kFn (u (some a :: List.replicate (N - 1) none) st) := rfl
theorem mkFn_2 {a b : D} : mkFn N 2 u [a, b] st = kFn (u (some a :: some b :: List.replicate (N - 2) none) st) := rfl
theorem mkFn_3 {a b c : D} : mkFn N 3 u [a, b, c] st = kFn (u (some a :: some b :: some c :: List.replicate (N - 3) none) st) := rfl
theorem mkFn_4 {a b c d : D} : mkFn N 4 u [a, b, c, d] st = kFn (u (some a :: some b :: some c :: some d :: List.replicate (N - 4) none) st) := rfl
theorem mkFn_5 {a b c d e : D} : mkFn N 5 u [a, b, c, d, e] st = kFn (u (some a :: some b :: some c :: some d :: some e :: List.replicate (N - 5) none) st) := rfl
/-! loops -/
theorem sWhile_at : sWhile t u ρ st = loopW t u FUEL ρ st := rfl
end
end MP

set_option maxRecDepth 100000
/-! MP C: rows of turns, reckoned. -/
namespace MP
open PySem PySem.Spec L2
theorem at_end {α : Type} (xs : List α) (y : α) (r : List α) : (xs ++ y :: r)[xs.length]? = some y := by simp
theorem set_end {α : Type} (xs : List α) (y z : α) (r : List α) : (xs ++ y :: r).set xs.length z = xs ++ z :: r := by simp
theorem myL_end (st : Sto) (acc : List D) (g : Sto) : myL (st ++ .lst acc :: g) st.length = some acc := by
  unfold myL
  rw [at_end]
theorem rdL_end (st : Sto) (acc : List D) (g : Sto) : rdL (st ++ .lst acc :: g) st.length = some acc := by
  unfold rdL
  rw [at_end]
theorem loopC_grow {m : MG} {f : ME} {ρ0 : Rho} {st : Sto} {v : D → D} : ∀ (ds : List D) (acc : List D) (g : Sto),
    (∀ d ∈ ds, ∀ acc g, ∃ ρ1 g', m d ρ0 = some ρ1 ∧ f ρ1 (st ++ .lst acc :: g) = some (v d, st ++ .lst acc :: (g ++ g'))) →
    acc.length + ds.length ≤ LIM → ∃ g', loopC (fun _ => True) m tYesM f ρ0 st.length ds (st ++ .lst acc :: g) = some (st ++ .lst (acc ++ ds.map v) :: g')
  | [], acc, g, _, _ => ⟨g, by simp [loopC]⟩
  | d :: r, acc, g, h, hl => by
    rw [List.length_cons] at hl
    obtain ⟨ρ1, g1, e1, e2⟩ := h d (.head _) acc g
    obtain ⟨g2, e3⟩ := loopC_grow r (acc ++ [v d]) (g ++ g1) (fun x hx => h x (.tail _ hx)) (by rw [List.length_append, List.length_singleton]; omega)
    refine ⟨g2, ?_⟩
    unfold loopC
    rw [if_pos trivial, e1, Option.bind_some]
    show (Option.bind (some (true, st ++ .lst acc :: g)) _) = _
    rw [Option.bind_some]
    simp only [if_true]
    rw [e2, Option.bind_some]
    simp only [myL_end]
    rw [if_pos (by omega), set_end, e3]
    simp [List.append_assoc]
theorem eLc_grow {fi : MI} {m : MG} {f : ME} {ρ : Rho} {vs : List Nat} {st : Sto} {v : D → D} {ds : List D} (hi : fi ρ st = some ((ds, fun _ => True), st)) (hl : ds.length ≤ LIM)
    (h : ∀ d ∈ ds, ∀ acc g, ∃ ρ1 g', m d (wipeD ρ vs) = some ρ1 ∧ f ρ1 (st ++ .lst acc :: g) = some (v d, st ++ .lst acc :: (g ++ g'))) :
    ∃ g', eLc vs fi m tYesM f ρ st = some (.ref st.length, st ++ .lst (ds.map v) :: g') := by
  obtain ⟨g, e⟩ := loopC_grow ds [] [] h (by simpa using hl)
  refine ⟨g, ?_⟩
  unfold eLc
  rw [hi, Option.bind_some]
  show Option.map _ (loopC (fun _ => True) m tYesM f (wipeD ρ vs) st.length ds (st ++ [.lst []])) = _
  rw [e]
  rfl
/-- the same, the maker leaves no trace -/
theorem loopC_calm {m : MG} {f : ME} {ρ0 : Rho} {st : Sto} {v : D → D} : ∀ (ds : List D) (acc : List D),
    (∀ d ∈ ds, ∀ acc, ∃ ρ1, m d ρ0 = some ρ1 ∧ f ρ1 (st ++ [.lst acc]) = some (v d, st ++ [.lst acc])) →
    acc.length + ds.length ≤ LIM → loopC (fun _ => True) m tYesM f ρ0 st.length ds (st ++ [.lst acc]) = some (st ++ [.lst (acc ++ ds.map v)])
  | [], acc, _, _ => by simp [loopC]
  | d :: r, acc, h, hl => by
    rw [List.length_cons] at hl
    obtain ⟨ρ1, e1, e2⟩ := h d (.head _) acc
    have e3 := loopC_calm r (acc ++ [v d]) (fun x hx => h x (.tail _ hx)) (by rw [List.length_append, List.length_singleton]; omega)
    unfold loopC
    rw [if_pos trivial, e1, Option.bind_some]
    show (Option.bind (some (true, st ++ [.lst acc])) _) = _
    rw [Option.bind_some]
    simp only [if_true]
    rw [e2, Option.bind_some]
    simp only [myL_end]
    rw [if_pos (by omega), set_end, e3]
    simp [List.append_assoc]
theorem eLc_calm {fi : MI} {m : MG} {f : ME} {ρ : Rho} {vs : List Nat} {st : Sto} {v : D → D} {ds : List D} (hi : fi ρ st = some ((ds, fun _ => True), st)) (hl : ds.length ≤ LIM)
    (h : ∀ d ∈ ds, ∀ acc, ∃ ρ1, m d (wipeD ρ vs) = some ρ1 ∧ f ρ1 (st ++ [.lst acc]) = some (v d, st ++ [.lst acc])) :
    eLc vs fi m tYesM f ρ st = some (.ref st.length, st ++ [.lst (ds.map v)]) := by
  have e := loopC_calm ds [] h (by simpa using hl)
  unfold eLc
  rw [hi, Option.bind_some]
  show Option.map _ (loopC (fun _ => True) m tYesM f (wipeD ρ vs) st.length ds (st ++ [.lst []])) = _
  rw [e]
  rfl
def kR1 (r : Option (List D × Sto)) : Option ((List D × (Sto → Prop)) × Sto) := r.bind fun p => match p.1 with
  | [.int n] => if -(LIM : Int) ≤ n ∧ n ≤ (LIM : Nat) then some ((rngD 0 n.toNat, fun _ => True), p.2) else none
  | _ => none
theorem iR1_at {g : MA} {ρ : Rho} {st : Sto} : iR1 g ρ st = kR1 (g ρ st) := rfl
theorem kR1_some {n : Nat} {st : Sto} (h : n ≤ LIM) : kR1 (some ([.int (n : Int)], st)) = some ((rngD 0 n, fun _ => True), st) := by
  unfold kR1
  rw [Option.bind_some]
  simp only
  rw [if_pos ⟨by omega, by omega⟩, Int.toNat_natCast]
theorem rngD_length (lo : Int) (n : Nat) : (rngD lo n).length = n := by simp [rngD]
theorem rngD_mem {n : Nat} {d : D} (h : d ∈ rngD 0 n) : ∃ k, k < n ∧ d = .int (k : Nat) := by
  unfold rngD at h
  obtain ⟨k, h1, h2⟩ := List.mem_map.mp h
  exact ⟨k, List.mem_range.mp h1, by rw [← h2, Int.zero_add]⟩
theorem bls_map (ds : List D) (b : D → Bool) : blsO (ds.map fun d => D.bl (b d)) = some (ds.map b) := by
  induction ds with
  | nil => rfl
  | cons d r ih =>
    show (blsO (r.map fun d => D.bl (b d))).map _ = _
    rw [ih]
    rfl
theorem allO_end (st : Sto) (ds : List D) (b : D → Bool) (g : Sto) : allO (.ref st.length) (st ++ .lst (ds.map fun d => D.bl (b d)) :: g) = some (.bl ((ds.map b).all id)) := by
  show Option.map _ ((rdL (st ++ .lst (ds.map fun d => D.bl (b d)) :: g) st.length).bind blsO) = _
  rw [rdL_end, Option.bind_some, bls_map]
  rfl
theorem lenO_tup (st : Sto) (ds : List D) : lenO (.tup ds) st = some (.int ds.length) := rfl
/-! rows of for -/
noncomputable def kF2 (m : MG) (u : MS) (r : List D) (q : RS) : RS := q.bind fun q => match q.1 with
  | .nx => loopF (fun _ => True) m u r q.2.1 q.2.2
  | .ct => loopF (fun _ => True) m u r q.2.1 q.2.2
  | .bk => some (.nx, q.2.1, q.2.2)
  | .rt d => some (.rt d, q.2.1, q.2.2)
noncomputable def kF1 (m : MG) (u : MS) (r : List D) (st : Sto) (q : Option Rho) : RS := q.bind fun ρ1 => kF2 m u r (u ρ1 st)
section
variable {m : MG} {u : MS} {r : List D} {st : Sto} {ρ : Rho} {d : D}
theorem loopF_nil : loopF (fun _ => True) m u [] ρ st = some (.nx, ρ, st) := by
  unfold loopF
  rw [if_pos trivial]
theorem loopF_cons : loopF (fun _ => True) m u (d :: r) ρ st = kF1 m u r st (m d ρ) := by
  conv => lhs; unfold loopF
  rw [if_pos trivial]
  rfl
theorem kF1_some : kF1 m u r st (some ρ) = kF2 m u r (u ρ st) := rfl
theorem kF2_nx : kF2 m u r (some (.nx, ρ, st)) = loopF (fun _ => True) m u r ρ st := rfl
theorem kF2_ct : kF2 m u r (some (.ct, ρ, st)) = loopF (fun _ => True) m u r ρ st := rfl
theorem kF2_bk : kF2 m u r (some (.bk, ρ, st)) = some (.nx, ρ, st) := rfl
theorem kF2_rt : kF2 m u r (some (.rt d, ρ, st)) = some (.rt d, ρ, st) := rfl
theorem sFor_run {fi : MI} {ds : List D} {st' : Sto} (h : fi ρ st = some ((ds, fun _ => True), st')) : sFor fi m u ρ st = loopF (fun _ => True) m u ds ρ st' := by
  unfold sFor
  rw [h]
  rfl
end
/-- data of a small depth, without places -/
def PD : Nat → D → Prop
  | 0, _ => False
  | n + 1, .tup ds => ds.length ≤ LIM ∧ ∀ d ∈ ds, PD n d
  | _ + 1, .ref _ => False
  | _ + 1, _ => True
theorem eqO_int (st : Sto) (l m : Int) : eqO st (.int l) (.int m) = some (l == m) := by
  simp [eqO, DEEP, toP, PyData.eqv]
theorem eqO_bl (st : Sto) (l m : Bool) : eqO st (.bl l) (.bl m) = some (l == m) := by
  simp [eqO, DEEP, toP, PyData.eqv]
theorem eqO_str_self (st : Sto) (l : List Nat) : eqO st (.str l) (.str l) = some true := by
  simp [eqO, DEEP, toP, PyData.eqv]
theorem eqO_non (st : Sto) : eqO st .non .non = some true := by
  simp [eqO, DEEP, toP, PyData.eqv]
end MP

set_option maxRecDepth 100000
/-! MP D: stores, lists, texts, reckoned. -/
namespace MP
open PySem PySem.Spec L2
section
variable {st : Sto} {ρ : Rho} {d : D}
theorem kLst_6 {a b c d e f : D} : kLst (some ([a, b, c, d, e, f], st)) = some (.ref st.length, st ++ [.lst [a, b, c, d, e, f]]) := rfl
theorem kLst_7 {a b c d e f g : D} : kLst (some ([a, b, c, d, e, f, g], st)) = some (.ref st.length, st ++ [.lst [a, b, c, d, e, f, g]]) := rfl
theorem kLst_8 {a b c d e f g h : D} : kLst (some ([a, b, c, d, e, f, g, h], st)) = some (.ref st.length, st ++ [.lst [a, b, c, d, e, f, g, h]]) := rfl
theorem kLst_5 {a b c d e : D} : kLst (some ([a, b, c, d, e], st)) = some (.ref st.length, st ++ [.lst [a, b, c, d, e]]) := rfl
end
theorem atI_in {α : Type} {xs : List α} {i : Int} (h0 : 0 ≤ i) (h1 : i < xs.length) : ∃ x ∈ xs, atI xs i = some x := by
  obtain ⟨k, rfl⟩ := Int.eq_ofNat_of_zero_le h0
  have hk : k < xs.length := by omega
  exact ⟨xs[k], List.getElem_mem hk, atI_nat (List.getElem?_eq_getElem hk)⟩
theorem ixO_lst {st : Sto} {k : Nat} {ds : List D} {i : Int} (h : rdL st k = some ds) : ixO (.ref k) (.int i) st = atI ds i := by
  simp only [ixO, h]
theorem lenO_lst {st : Sto} {k : Nat} {ds : List D} (h : rdL st k = some ds) : lenO (.ref k) st = some (.int ds.length) := by
  simp only [lenO, h]
theorem ixO_end {st g : Sto} {ds : List D} {i : Int} : ixO (.ref st.length) (.int i) (st ++ .lst ds :: g) = atI ds i := ixO_lst (rdL_end st ds g)
theorem myL_rdL {st : Sto} {k : Nat} {ds : List D} (h : myL st k = some ds) : rdL st k = some ds := by
  unfold MP.myL at h
  unfold MP.rdL
  split at h
  · rename_i e
    rw [e]
    exact h
  · cases h
theorem rdL_lt {st : Sto} {k : Nat} {ds : List D} (h : rdL st k = some ds) : k < st.length := by
  unfold MP.rdL at h
  by_cases hk : k < st.length
  · exact hk
  · rw [List.getElem?_eq_none (by omega)] at h
    cases h
theorem rdL_grow {st g : Sto} {k : Nat} {ds : List D} (h : rdL st k = some ds) : rdL (st ++ g) k = some ds := by
  have := rdL_lt h
  unfold MP.rdL at h ⊢
  rw [List.getElem?_append_left this]
  exact h
theorem myL_grow {st g : Sto} {k : Nat} {ds : List D} (h : myL st k = some ds) : myL (st ++ g) k = some ds := by
  have := rdL_lt (myL_rdL h)
  unfold MP.myL at h ⊢
  rw [List.getElem?_append_left this]
  exact h
theorem rdL_set_ne {st : Sto} {j k : Nat} {o : Ob} (h : j ≠ k) : rdL (st.set j o) k = rdL st k := by
  unfold MP.rdL
  rw [List.getElem?_set_ne h]
theorem myL_set_ne {st : Sto} {j k : Nat} {o : Ob} (h : j ≠ k) : myL (st.set j o) k = myL st k := by
  unfold MP.myL
  rw [List.getElem?_set_ne h]
theorem myL_set {st : Sto} {j : Nat} {ds : List D} (h : j < st.length) : myL (st.set j (.lst ds)) j = some ds := by
  unfold MP.myL
  rw [List.getElem?_set_self h]
theorem setO_lst {st : Sto} {k i : Nat} {ds : List D} {d : D} (h : myL st k = some ds) (hi : i < ds.length) : setO (.ref k) (.int (i : Nat)) d st = some (st.set k (.lst (ds.set i d))) := by
  have e : ixN ds.length (i : Int) = some i := by
    unfold ixN
    rw [if_pos (by omega), if_pos (by omega), Int.toNat_natCast]
  simp only [setO, h, e, Option.map_some]
theorem strs_map (ls : List (List Nat)) : strsO (ls.map D.str) = some ls := by
  induction ls with
  | nil => rfl
  | cons d r ih =>
    show (strsO (r.map D.str)).map _ = _
    rw [ih]
    rfl
theorem joinD_nil (ls : List (List Nat)) : joinD [] ls = ls.flatten := by
  induction ls with
  | nil => rfl
  | cons p r ih =>
    cases r with
    | nil => simp [joinD, TL.joinL]
    | cons q r =>
      show p ++ ([] ++ TL.joinL [] (q :: r)) = _
      have : TL.joinL [] (q :: r) = (q :: r).flatten := ih
      rw [this]
      rfl
theorem join_end {st g : Sto} {s : List Nat} {ls : List (List Nat)} (h : (ls.map List.length).sum + ls.length * s.length ≤ 16000000) : joinM (.str s) [.ref st.length] (st ++ .lst (ls.map D.str) :: g) = some (.str (joinD s ls), st ++ .lst (ls.map D.str) :: g) := by
  show ((rdL (st ++ .lst (ls.map D.str) :: g) st.length).bind strsO).bind _ = _
  rw [rdL_end, Option.bind_some, strs_map, Option.bind_some, if_pos h]
theorem cutG_len {α : Type} (xs : List α) (lo hi : Option Int) : (cutG xs lo hi).length ≤ xs.length := by
  unfold cutG
  rw [List.length_take, List.length_drop]
  omega
theorem atI_map {α β : Type} (xs : List α) (f : α → β) (i : Int) : atI (xs.map f) i = (atI xs i).map f := by
  unfold L2.atI
  rw [List.length_map]
  cases L2.ixN xs.length i with
  | none => rfl
  | some j => simp
theorem ixO_str {st : Sto} {l : List Nat} {i : Int} (h : l.length ≤ LIM) : ixO (.str l) (.int i) st = (atI l i).map fun c => .str [c] := by
  simp only [ixO, h, if_true]
end MP

set_option maxRecDepth 100000
/-! MP E: own classes, their fields, instances made; get; what is not reached. -/
namespace MP
open PySem PySem.Spec PyProof.Rows L2
section
variable {X : Cx} {cad : Cad} {e a b : Expr} {f g fo fv : ME} {s : Stmt} {pos p : Pos} {ss : List Stmt}
/-! ### what no run reaches: its mirror tells nothing -/
def eNo : ME := fun _ _ => none
def sNo : MS := fun _ _ => none
theorem ie_no : IE X cad e eNo := ⟨fun pins s σ H Q I h => by
  obtain ⟨as, st, ρ, d, st', R, E, q, P⟩ := h
  cases q⟩
theorem is_no : ISt X cad s sNo := ⟨fun pins sh σ H D I h => by
  obtain ⟨as, st, ρ, fl, ρ', st', R, E, q, P⟩ := h
  cases q⟩
/-! ### fields -/
def putFD (f : Str) (d : D) : List (Str × D) → List (Str × D)
  | [] => [(f, d)]
  | (g, x) :: r => if g = f then (g, d) :: r else (g, x) :: putFD f d r
abbrev FR (K : PySem.W.Frag) (as : List Addr) (H : Hp) : List (Str × D) → List (Str × V) → Prop := Paired (fun (p : Str × D) (q : Str × V) => p.1 = q.1 ∧ VR K as H p.2 q.2)
theorem FR.lookup {K : PySem.W.Frag} {as : List Addr} {H : Hp} {f : Str} {d : D} : ∀ {fs : List (Str × D)} {xs : List (Str × V)}, FR K as H fs xs → fs.lookup f = some d → ∃ v, xs.lookup f = some v ∧ VR K as H d v
  | _, _, .nil, e => by cases e
  | (g, x) :: r, (g', v) :: r', .cons h t, e => by
    obtain ⟨h1, h2⟩ := h
    cases (show g = g' from h1)
    by_cases hg : (f == g) = true
    · simp only [List.lookup, hg] at e ⊢
      cases e
      exact ⟨v, rfl, h2⟩
    · have hg' : (f == g) = false := by
        cases hb : (f == g) with
        | true => exact absurd hb hg
        | false => rfl
      simp only [List.lookup, hg'] at e ⊢
      exact FR.lookup t e
theorem FR.put {K : PySem.W.Frag} {as : List Addr} {H : Hp} {f : Str} {d : D} {v : V} (r : VR K as H d v) : ∀ {fs : List (Str × D)} {xs : List (Str × V)}, FR K as H fs xs → FR K as H (putFD f d fs) (putF f v xs)
  | _, _, .nil => .cons ⟨rfl, r⟩ .nil
  | (g, x) :: fs, (g', y) :: xs, .cons h t => by
    obtain ⟨h1, h2⟩ := h
    cases (show g = g' from h1)
    show FR K as H (if g = f then (g, d) :: fs else (g, x) :: putFD f d fs) (if g = f then (g, v) :: xs else (g, y) :: putF f v xs)
    by_cases hg : g = f
    · rw [if_pos hg, if_pos hg]
      exact .cons ⟨rfl, r⟩ t
    · rw [if_neg hg, if_neg hg]
      exact .cons ⟨rfl, h2⟩ (FR.put r t)
theorem FR.length {K : PySem.W.Frag} {as : List Addr} {H : Hp} : ∀ {fs : List (Str × D)} {xs : List (Str × V)}, FR K as H fs xs → fs.length = xs.length
  | _, _, .nil => rfl
  | _, _, .cons _ t => by rw [List.length_cons, List.length_cons, FR.length t]
/-- what the rules for a field ask of the classes that have it -/
structure FldF (K : PySem.W.Frag) (cad : Cad) (cs : List Nat) (f : Str) : Prop where
  at_ : ∀ c ∈ cs, Cls K (cad c) ∧ NoAttr K (cad c) f
def fldO (cs : List Nat) (f : Str) (x : D) (st : Sto) : Option D := match x with
  | .ref k => match st[k]? with
    | some (.ins c fs) => if c ∈ cs then fs.lookup f else none
    | _ => none
  | _ => none
def fldM (cs : List Nat) (f : Str) : D → Sto → Option (D × Sto) := fun x st => (fldO cs f x st).map fun d => (d, st)
theorem fldO_to {K : PySem.W.Frag} {as : List Addr} {st : Sto} {H : Hp} {cs : List Nat} {fn : Str} {x d : D} {v : V} (T : FldF K cad cs fn) (R : Rel K cad as st H) (r : VR K as H x v) (e : fldO cs fn x st = some d) :
    ∃ a C dx fs w, v = .ref a ∧ H a = some (.ins C dx fs) ∧ Cls K C ∧ NoAttr K C fn ∧ fs.lookup fn = some w ∧ VR K as H d w := by
  cases r with
  | @ref k a ha =>
    simp only [fldO] at e
    split at e
    · rename_i c fs e1
      split at e
      · rename_i hc
        obtain ⟨dx, xs, q, rr⟩ := R.ob k _ a e1 ha
        obtain ⟨w, hw, rw'⟩ := FR.lookup rr e
        obtain ⟨h1, h2⟩ := T.at_ c hc
        exact ⟨a, _, dx, xs, w, rfl, q, h1, h2, hw, rw'⟩
      · cases e
    · cases e
  | _ => cases e
theorem ie_fld {cs : List Nat} {fn : Str} (T : FldF X.K cad cs fn) (ha : IE X cad a g) (hb : attributeBase a fn X.env (eval a X.env) = eval a X.env := by rfl) : IE X cad (.Attribute a fn pos) (eUn (fldM cs fn) g) := by
  refine pe_weak (pe_fld ha hb) fun σ H Q => ?_
  rintro ⟨as, st, ρ, d, st', R, E, q, P⟩
  obtain ⟨⟨x, st1⟩, e1, q⟩ := bind_some q
  obtain ⟨d', e2, e3⟩ := map_some q
  cases e3
  refine tI_run R E e1 fun as1 H1 v x1 R1 E1 r1 => ?_
  obtain ⟨a, C, dx, fs, w, rfl, h1, h2, h3, h4, r2⟩ := fldO_to T R1 r1 e2
  exact ⟨a, C, dx, fs, w, rfl, h1, h2, h3, h4, P as1 H1 w x1 R1 r2⟩
def setFO (cs : List Nat) (f : Str) (x d : D) (st : Sto) : Option Sto := match x with
  | .ref k => match st[k]? with
    | some (.ins c fs) => if c ∈ cs ∧ fs.length < 1000 then some (st.set k (.ins c (putFD f d fs))) else none
    | _ => none
  | _ => none
theorem setFO_to {K : PySem.W.Frag} {as : List Addr} {st st' : Sto} {H : Hp} {cs : List Nat} {fn : Str} {x d : D} {v w : V} (T : FldF K cad cs fn) (R : Rel K cad as st H) (r : VR K as H x v) (rd : VR K as H d w) (e : setFO cs fn x d st = some st') :
    ∃ a C dx fs, v = .ref a ∧ H a = some (.ins C dx fs) ∧ Cls K C ∧ NoAttr K C fn ∧ fs.length < 1000 ∧ Ext K as H as (upd H a (.ins C dx (putF fn w fs))) ∧ Rel K cad as st' (upd H a (.ins C dx (putF fn w fs))) := by
  cases r with
  | @ref k a ha =>
    simp only [setFO] at e
    split at e
    · rename_i c fs e1
      split at e
      · rename_i hc
        cases e
        obtain ⟨dx, xs, q, rr⟩ := R.ob k _ a e1 ha
        obtain ⟨h1, h2⟩ := T.at_ c hc.1
        have x6 : Ext K as H as (upd H a (.ins (cad c) dx (putF fn w xs))) := ⟨⟨[], by simp⟩, fun b ys h => sqT_write q (fun _ z => by cases z) (fun _ _ z => by cases z) h⟩
        obtain ⟨R6, x7⟩ := R.write (u := .ins (cad c) dx (putF fn w xs)) (o' := .ins c (putFD fn d fs)) e1 ha rfl rfl ⟨dx, putF fn w xs, upd_same, Paired.map2 (fun _ _ z => ⟨z.1, z.2.mono x6⟩) (FR.put rd rr)⟩
        exact ⟨a, _, dx, xs, rfl, q, h1, h2, by rw [← FR.length rr]; exact hc.2, x6, R6⟩
      · cases e
    · cases e
  | _ => cases e
def sFldM (cs : List Nat) (f : Str) (fo fv : ME) : MS := fun ρ st => (fv ρ st).bind fun y => (fo ρ y.2).bind fun x => (setFO cs f x.1 y.1 x.2).map fun st' => (.nx, ρ, st')
theorem is_fld {cs : List Nat} {fn : Str} {p' : Pos} (T : FldF X.K cad cs fn) (ho : IE X cad a fo) (hv : IE X cad b fv) (hs : swapsWith b (some (.Attribute a fn p')) pos.line X.env = pure false := by rfl) :
    ISt X cad (.Assign [.Attribute a fn p'] b pos) (sFldM cs fn fo fv) := by
  refine ps_weak (ps_fld ho hv hs) fun Dn σ H => ?_
  rintro ⟨as, st, ρ, fl, ρ', st', R, E, q, P⟩
  obtain ⟨⟨y, st1⟩, e1, q⟩ := bind_some q
  obtain ⟨⟨x, st2⟩, e2, q⟩ := bind_some q
  obtain ⟨st3, e3, e4⟩ := map_some q
  cases e4
  refine tI_run R E e1 fun as1 H1 w x1 R1 E1 r1 => tI_run R1 E1 e2 fun as2 H2 v x2 R2 E2 r2 => ?_
  obtain ⟨a, C, dx, fs, rfl, h1, h2, h3, h4, x3, R3⟩ := setFO_to T R2 r2 (r1.mono x2) e3
  exact ⟨a, C, dx, fs, rfl, h1, h2, h3, h4, P as2 _ σ (x1.trans (x2.trans x3)) R3 (E2.mono x3)⟩
/-- a.f += j, j written -/
def sFldAddM (cs : List Nat) (f : Str) (fo : ME) (j : Int) : MS := fun ρ st => (fo ρ st).bind fun x => match fldO cs f x.1 x.2 with
  | some (.int i) => (setFO cs f x.1 (.int (i + j)) x.2).map fun st' => (.nx, ρ, st')
  | _ => none
theorem is_fldAdd {cs : List Nat} {fn : Str} {p' : Pos} {j : Int} {kd : Nat} {p3 : Pos} (T : FldF X.K cad cs fn) (ho : IE X cad a fo) : ISt X cad (.AugAssign (.Attribute a fn p') .Add (.Constant (.int j) kd p3) pos) (sFldAddM cs fn fo j) := by
  refine ps_weak (ps_fldaug ho pe_int in_add) fun Dn σ H => ?_
  rintro ⟨as, st, ρ, fl, ρ', st', R, E, q, P⟩
  obtain ⟨⟨x, st1⟩, e1, q⟩ := bind_some q
  simp only at q
  split at q
  · rename_i i e2
    obtain ⟨st3, e4, e5⟩ := map_some q
    cases e5
    refine tI_run R E e1 fun as1 H1 v x1 R1 E1 r1 => ?_
    obtain ⟨a, C, dx, fs, w, rfl, h1, h2, h3, h4, r2⟩ := fldO_to T R1 r1 e2
    cases r2
    obtain ⟨a', C', dx', fs', ea, g1, g2, g3, g4, x3, R3⟩ := setFO_to T R1 r1 (.int (i + j)) e4
    cases ea
    rw [h1] at g1
    cases g1
    exact ⟨a, C, dx, fs, _, rfl, h1, h2, h3, h4, i, j, rfl, rfl, dx, fs, h1, g4, P as1 _ σ (x1.trans x3) R3 (E1.mono x3)⟩
  · cases q
/-! ### instances made -/
/-- the class x of the text, its __init__ tells F -/
structure MkFact (P : Program) (w : World) (K : PySem.W.Frag) (mg : Str → Option Value) (base : Heap) (cad : Cad) (x : Str) (k : Nat) (c : Nat) (F : FN) : Prop where
  ex : ∃ (f : Addr) (fd : FuncData) (ps : List Str), Mk K (cad c) f ∧ FnOk P w K mg base CX0 k f fd ps (spOf K cad F) ∧ mg x = some (.ref (cad c)) ∧ Binds K fd ps []
def eMake (c : Nat) (F : FN) (g : MA) : ME := fun ρ st => (g ρ st).bind fun p => (F (.ref p.2.length :: p.1) (p.2 ++ [.ins c []])).bind fun q => match q.1 with
  | .non => some (.ref p.2.length, q.2)
  | _ => none
theorem ie_make {es : List Expr} {x : Str} {k c : Nat} {F : FN} {g : MA} (M : MkFact X.prog X.w X.K X.mg X.base cad x k c F) (hr : Room (k + 1) X.A) (hg : Gl X x) (ha : IA X cad (e :: es) g) (hdb : (x == ("__debug__" : Str)) = false := by decide)
    (he : starEach (e :: es) X.env = (false, eval e X.env) :: starEach es X.env := by rfl) (hpl : (backTo pos (starEach es X.env)).any (·.1) = false := by rfl) : IE X cad (.Call (.Name x p) (e :: es) [] pos) (eMake c F g) := by
  obtain ⟨fa, fd, ps, M, G, hm, hb⟩ := M.ex
  refine pe_weak (pe_make (E := E0) (dvs := []) M G hr hg hm hb .nil pass0 ha hdb he hpl) fun σ H Q => ?_
  rintro ⟨as, st, ρ, d, st', R, E, q, P⟩
  obtain ⟨⟨ys, st1⟩, e1, q⟩ := bind_some q
  obtain ⟨⟨z, st2⟩, e2, q⟩ := bind_some q
  simp only at q
  split at q
  · cases q
    refine tIA_run R E e1 fun as1 H1 vs x1 R1 E1 r1 => fun x dx hx hd hne => ?_
    have hx' : upd H1 dx (.own x) x = none := by rw [upd_ne (Ne.symm hne)]; exact hx
    have R2 := R1.fresh (u := .own x) hd
    have y2 : Ext X.K as1 H1 as1 (upd H1 dx (.own x)) := Ext.fresh hd
    have y3 : Ext X.K as1 (upd H1 dx (.own x)) (as1 ++ [x]) (upd (upd H1 dx (.own x)) x (.ins (cad c) dx [])) := Ext.fresh1 hx'
    have R3 : Rel X.K cad (as1 ++ [x]) (st1 ++ [.ins c []]) (upd (upd H1 dx (.own x)) x (.ins (cad c) dx [])) := R2.new hx' ⟨dx, [], upd_same, .nil⟩
    have ap : (as1 ++ [x])[st1.length]? = some x := by rw [← R1.len]; simp
    rw [List.append_nil]
    refine ⟨as1 ++ [x], st1 ++ [.ins c []], .ref st1.length :: ys, .non, _, R3, .cons (.ref ap) (r1.mono (y2.trans y3)), e2, fun as4 H4 v x4 R4 r4 => ?_⟩
    cases r4
    exact ⟨rfl, P as4 H4 (.ref x) (x1.trans (y2.trans (y3.trans x4))) R4 (.ref (x4.at ap))⟩
  · cases q
/-! ### isinstance of an own class -/
structure IsF (K : PySem.W.Frag) (cad : Cad) (n : Nat) (subs : List Nat) (all : Nat) : Prop where
  non : PySem.W.kitOne K (.type "NoneType") (.ref (cad n)) = some false
  own : ∀ c, c < all → PySem.W.kitOne K (.ref (cad c)) (.ref (cad n)) = some (decide (c ∈ subs))
  cls : ∀ c, c < all → Cls K (cad c) ∧ PySem.W.findIn K (.ref (cad c)) "__class__" = some (some (.builtin "object.__class__")) ∧ PySem.W.mroIn K (cad c) (.type "object") = some true
  hn : PySem.W.specialIn K (.builtin "object.__class__") "__get__" = some (some (.builtin "getset_descriptor.__get__"))
  htk : PySem.W.takesIn K (.builtin "object.__class__") = some true
def isCO (subs : List Nat) (all : Nat) (x : D) (st : Sto) : Option Bool := match x with
  | .non => some false
  | .ref k => match st[k]? with
    | some (.ins c _) => if c < all then some (decide (c ∈ subs)) else none
    | _ => none
  | _ => none
def isCM (subs : List Nat) (all : Nat) : D → Sto → Option (D × Sto) := fun x st => (isCO subs all x st).map fun b => (.bl b, st)
theorem ie_isC {y : Str} {n all : Nat} {subs : List Nat} {p2 : Pos} (T : IsF X.K cad n subs all) (hg : Gl X "isinstance") (hm : X.mg "isinstance" = none) (ha : IE X cad a f) (hgy : Gl X y) (hmy : X.mg y = some (.ref (cad n))) (hdy : (y == ("__debug__" : Str)) = false := by decide)
    (hs : starEach [a, .Name y p2] X.env = (false, eval a X.env) :: starEach [.Name y p2] X.env := by rfl) (hs2 : starEach [.Name y p2] X.env = [(false, eval (.Name y p2) X.env)] := by rfl)
    (hpl : (backTo pos (starEach [.Name y p2] X.env)).any (·.1) = false := by rfl) : IE X cad (.Call (.Name "isinstance" p) [a, .Name y p2] [] pos) (eUn (isCM subs all) f) := by
  refine pe_weak (pe_callB call_isi hg hm (by decide +kernel) (pa_cons ha (pa_cons (pe_glob hgy hmy (v := .ref (cad n)) rfl hdy) pa_nil hs2) hs) (by decide) (by decide) hs hpl) fun σ H Q => ?_
  rintro ⟨as, st, ρ, d, st', R, E, q, P⟩
  obtain ⟨⟨x, st1⟩, e1, q⟩ := bind_some q
  obtain ⟨b, e2, e3⟩ := map_some q
  cases e3
  refine tI_run R E e1 fun as1 H1 v x1 R1 E1 r1 => ?_
  have fin : ∀ t, TyX X.K H1 v t → PySem.W.kitOne X.K t (.ref (cad n)) = some b → rIsi X.K [v, .ref (cad n)] H1 Q := fun t ht hk => ⟨v, .ref (cad n), t, .ref (cad n), b, rfl, .own _, ht, hk, P as1 H1 (.bl b) x1 R1 (.bl b)⟩
  cases r1 with
  | non =>
    cases e2
    exact fin _ (.base .non) T.non
  | @ref k a ha =>
    simp only [isCO] at e2
    split at e2
    · rename_i c fs e4
      split at e2
      · rename_i hc
        cases e2
        obtain ⟨dx, xs, q, rr⟩ := R1.ob k _ a e4 ha
        obtain ⟨h1, h2, h3⟩ := T.cls c hc
        exact fin _ (.base (.ins q h1 h2 T.hn T.htk h3)) (T.own c hc)
      · cases e2
    · cases e2
  | _ => cases e2
/-! ### tuples of the top, by their names -/
def GTup (K : PySem.W.Frag) (mg : Str → Option Value) (x : Str) (d : D) : Prop := ∃ a, mg x = some (.ref a) ∧ ∀ as H, VR K as H d (.ref a)
theorem ie_gtup {x : Str} {d : D} (T : GTup X.K X.mg x d) (hg : Gl X x) (hdb : (x == ("__debug__" : Str)) = false := by decide) : IE X cad (.Name x pos) (eC d) := by
  obtain ⟨a, hm, hv⟩ := T
  refine pe_weak (pe_glob hg hm (v := .ref a) rfl hdb) fun σ H Q => ?_
  rintro ⟨as, st, ρ, d', st', R, E, q, P⟩
  cases q
  exact P as H (.ref a) .refl R (hv as H)
/-! ### d.get -/
def getO (k : Nat) (y : D) (z : D) (st : Sto) : Option D := match myD st k, keyOf y with
  | some kvs, some key => some ((valD kvs key).getD z)
  | _, _ => none
def eGet1 (fo fk : ME) : ME := fun ρ st => (fo ρ st).bind fun x => match x.1 with
  | .ref k => if (myD x.2 k).isSome = true then (fk ρ x.2).bind fun y => (getO k y.1 .non y.2).map fun d => (d, y.2) else none
  | _ => none
def eGet2 (fo fk fd : ME) : ME := fun ρ st => (fo ρ st).bind fun x => match x.1 with
  | .ref k => if (myD x.2 k).isSome = true then (fk ρ x.2).bind fun y => (fd ρ y.2).bind fun z => (getO k y.1 z.1 z.2).map fun d => (d, z.2) else none
  | _ => none
theorem isD_of {K : PySem.W.Frag} {as : List Addr} {st : Sto} {H : Hp} {k : Nat} {a : Addr} (R : Rel K cad as st H) (h : (myD st k).isSome = true) (ha : as[k]? = some a) : IsD H a := by
  obtain ⟨kvs, e⟩ := Option.isSome_iff_exists.mp h
  obtain ⟨xs, q, _⟩ := R.myD e ha
  exact .inl ⟨xs, .inl q⟩
theorem getO_to {K : PySem.W.Frag} {as : List Addr} {st : Sto} {H : Hp} {k : Nat} {a : Addr} {y z d : D} {v w : V} (R : Rel K cad as st H) (ha : as[k]? = some a) (ry : VR K as H y v) (rz : VR K as H z w) (e : getO k y z st = some d) :
    ∃ o, DGet H a v o ∧ VR K as H d (o.getD w) := by
  unfold getO at e
  split at e
  · rename_i kvs key e1 e2
    cases e
    obtain ⟨xs, q, r⟩ := R.myD e1 ha
    refine ⟨valV xs key, ?_, ?_⟩
    · rw [keyOf_is ry e2]
      exact DGet.k q
    · have := r.val key
      revert this
      cases valD kvs key <;> cases valV xs key <;> intro this
      · exact rz
      · exact this.elim
      · exact this.elim
      · exact this
  · cases e
theorem ie_get1 {fk : ME} {apos : Pos} (hu : X.A.units + 64 < cLine) (ho : IE X cad a fo) (hk : IE X cad b fk) (m : M1 X a "get" apos b pos) : IE X cad (.Call (.Attribute a "get" apos) [b] [] pos) (eGet1 fo fk) := by
  refine pe_weak (pe_dget1 (by omega) ho hk m) fun σ H Q => ?_
  rintro ⟨as, st, ρ, d, st', R, E, q, P⟩
  obtain ⟨⟨x, st1⟩, e1, q⟩ := bind_some q
  simp only at q
  split at q
  · rename_i k
    split at q
    · rename_i hs
      obtain ⟨⟨y, st2⟩, e2, q⟩ := bind_some q
      obtain ⟨d', e3, e4⟩ := map_some q
      cases e4
      refine tI_run R E e1 fun as1 H1 v x1 R1 E1 r1 => ?_
      cases r1 with
      | @ref k a ha =>
        refine ⟨a, rfl, isD_of R1 hs ha, tI_run R1 E1 e2 fun as2 H2 w x2 R2 E2 r2 => ?_⟩
        obtain ⟨o, h1, h2⟩ := getO_to R2 (x2.at ha) r2 .non e3
        exact ⟨o, h1, P as2 H2 _ (x1.trans x2) R2 h2⟩
    · cases q
  · cases q
theorem ie_get2 {fk fd : ME} {c : Expr} {apos : Pos} (hu : X.A.units + 64 < cLine) (ho : IE X cad a fo) (hk : IE X cad b fk) (hd : IE X cad c fd) (m : M2 X a "get" apos b c pos) : IE X cad (.Call (.Attribute a "get" apos) [b, c] [] pos) (eGet2 fo fk fd) := by
  refine pe_weak (pe_dget2 (by omega) ho hk hd m) fun σ H Q => ?_
  rintro ⟨as, st, ρ, d, st', R, E, q, P⟩
  obtain ⟨⟨x, st1⟩, e1, q⟩ := bind_some q
  simp only at q
  split at q
  · rename_i k
    split at q
    · rename_i hs
      obtain ⟨⟨y, st2⟩, e2, q⟩ := bind_some q
      obtain ⟨⟨z, st3⟩, e3, q⟩ := bind_some q
      obtain ⟨d', e4, e5⟩ := map_some q
      cases e5
      refine tI_run R E e1 fun as1 H1 v x1 R1 E1 r1 => ?_
      cases r1 with
      | @ref k a ha =>
        refine ⟨a, rfl, isD_of R1 hs ha, tI_run R1 E1 e2 fun as2 H2 w x2 R2 E2 r2 => tI_run R2 E2 e3 fun as3 H3 u x3 R3 E3 r3 => ?_⟩
        obtain ⟨o, h1, h2⟩ := getO_to R3 (x3.at (x2.at ha)) (r2.mono x3) r3 e4
        exact ⟨o, h1, P as3 H3 _ (x1.trans (x2.trans x3)) R3 h2⟩
    · cases q
  · cases q
/-! ### is True, is False -/
def kIsB (neg : Bool) : O2 := fun x y st => match x, y with
  | .bl k, .bl l => some (.bl (if neg then !decide (k = l) else decide (k = l)), st)
  | _, _ => none
theorem od_isB {K : PySem.W.Frag} : OpD K cad rIsB (kIsB false) := by
  intro as st H x y v w d st' Q R r1 r2 e P
  cases r1 with
  | bl k =>
    cases r2 with
    | bl l =>
      cases e
      exact ⟨k, l, rfl, rfl, P.now R (.bl _)⟩
    | _ => cases e
  | _ => cases r2 <;> cases e
theorem cm_isB : Cmp X cad .Is (kIsB false) := ⟨⟨_, op_isBl, od_isB⟩⟩
/-! ### a dict of the top, read by texts -/
structure GDic (K : PySem.W.Frag) (w : World) (mg : Str → Option Value) (x : Str) (kvs : List (List Nat × D)) : Prop where
  ex : ∃ a, mg x = some (.ref a) ∧ ∀ p ∈ kvs, ∃ v, KDct K w a (mkS p.1) v ∧ ∀ as H, VR K as H p.2 v
def eKdx (kvs : List (List Nat × D)) (f : ME) : ME := fun ρ st => (f ρ st).bind fun p => match p.1 with
  | .str l => (kvs.lookup l).map fun d => (d, p.2)
  | _ => none
theorem lookup_mem {l : List Nat} {d : D} : ∀ kvs : List (List Nat × D), kvs.lookup l = some d → (l, d) ∈ kvs
  | [], e => by cases e
  | (k, x) :: r, e => by
    by_cases hk : (l == k) = true
    · simp only [List.lookup, hk] at e
      cases e
      rw [beq_iff_eq.mp hk]
      exact .head _
    · have hk' : (l == k) = false := by
        cases hb : (l == k) with
        | true => exact absurd hb hk
        | false => rfl
      simp only [List.lookup, hk'] at e
      exact .tail _ (lookup_mem r e)
theorem ie_kdx {x : Str} {kvs : List (List Nat × D)} {p2 : Pos} (T : GDic X.K X.w X.mg x kvs) (hg : Gl X x) (hb : IE X cad b f) (hs : PlainIx b) (hdb : (x == ("__debug__" : Str)) = false := by decide) : IE X cad (.Subscript (.Name x p2) b pos) (eKdx kvs f) := by
  obtain ⟨a, hm, hv⟩ := T.ex
  refine pe_weak (pe_ix ix_kdict (pe_glob hg hm (v := .ref a) rfl hdb) hb hs) fun σ H Q => ?_
  rintro ⟨as, st, ρ, d, st', R, E, q, P⟩
  obtain ⟨⟨y, st1⟩, e1, q⟩ := bind_some q
  simp only at q
  split at q
  · rename_i l
    obtain ⟨d', e2, e3⟩ := map_some q
    cases e3
    refine tI_run R E e1 fun as1 H1 v x1 R1 E1 r1 => ?_
    cases r1 with
    | str hl =>
      have hmem : (l, d) ∈ kvs := lookup_mem kvs e2
      obtain ⟨v, h1, h2⟩ := hv _ hmem
      exact ⟨a, mkS l, v, rfl, rfl, h1, P as1 H1 v x1 R1 (h2 as1 H1)⟩
  · cases q
end
end MP

set_option maxRecDepth 100000
/-! MP F: what the top has written of classes, tuples and dicts, put together. -/
namespace MP
open PySem PySem.Spec PyProof.Rows L2
section
variable {K : PySem.W.Frag} {cad : Cad} {mg : Str → Option Value} {w : World}
theorem kit_t {C D : Addr} (hc : (PySem.W.clsIn K D).isSome = true) (ht : PySem.W.typeIn K (.ref D) = some (.type "type")) (hs : PySem.W.subIn K (.ref C) (.ref D) = some true) : PySem.W.kitOne K (.ref C) (.ref D) = some true := by
  unfold PySem.W.kitOne PySem.W.kitCls
  simp only [hc, ht, hs]
  split <;> rfl
theorem kit_f {C D : Addr} (hc : (PySem.W.clsIn K D).isSome = true) (ht : PySem.W.typeIn K (.ref D) = some (.type "type")) (hs : PySem.W.subIn K (.ref C) (.ref D) = some false) (hd : PySem.W.subIn K (.ref D) (.ref D) = some true) : PySem.W.kitOne K (.ref C) (.ref D) = some false := by
  have ne : (Value.ref C == Value.ref D) = false := by
    cases h : (Value.ref C == Value.ref D) with
    | false => rfl
    | true =>
      cases beq_iff_eq.mp h
      rw [hs] at hd
      cases hd
  unfold PySem.W.kitOne PySem.W.kitCls
  simp only [ne, hc, ht, hs]
  rfl
theorem kit_n {T : String} {D : Addr} (hc : (PySem.W.clsIn K D).isSome = true) (ht : PySem.W.typeIn K (.ref D) = some (.type "type")) (hs : PySem.W.subIn K (.type T) (.ref D) = some false) : PySem.W.kitOne K (.type T) (.ref D) = some false := by
  have ne : (Value.type T == Value.ref D) = false := by
    cases h : (Value.type T == Value.ref D) with
    | false => rfl
    | true => cases beq_iff_eq.mp h
  unfold PySem.W.kitOne PySem.W.kitCls
  simp only [ne, hc, ht, hs]
  rfl
theorem below0 {P : Nat → Prop} : ∀ c, c < 0 → P c := fun c h => absurd h (Nat.not_lt_zero _)
theorem belowS {P : Nat → Prop} {n : Nat} (h : ∀ c, c < n → P c) (k : P n) : ∀ c, c < n + 1 → P c := fun c hc => by
  by_cases e : c = n
  · exact e ▸ k
  · exact h c (by omega)
theorem memN {α : Type} {P : α → Prop} : ∀ c ∈ ([] : List α), P c := fun c h => by cases h
theorem memC {α : Type} {P : α → Prop} {a : α} {l : List α} (k : P a) (h : ∀ c ∈ l, P c) : ∀ c ∈ a :: l, P c := fun c hc => by
  rcases List.mem_cons.mp hc with e | e
  · exact e ▸ k
  · exact h c e
/-- a tuple of the written part -/
theorem vr_ktup {as : List Addr} {H : Hp} {a : Addr} {o : Obj} {its : Array Value} {n : Nat} {vs : List V} {ds : List D} (l : K.lookup a = some o) (hc : o.cls = .type "tuple") (hd : o.data = .seq its n) (hz : its.size ≤ sizeLine) (hv : Vals vs its.toList) (r : VRs K as H ds vs) : VR K as H (.tup ds) (.ref a) :=
  .tup (.inr ⟨o, its, n, l, hc, hd, hz, hv⟩) r
theorem isS_of {α : Type} {o : Option α} {x : α} (h : o = some x) : o.isSome = true := by rw [h]; rfl
theorem szK {its : Array Value} {k : Nat} (h : its.size = k) (h2 : k ≤ sizeLine) : its.size ≤ sizeLine := h ▸ h2
theorem rv_int (i : Int) (t : Tok) : RelV (.int i) (.int i t) := ⟨t, rfl⟩
theorem rv_str (l : List Nat) {x : Str} (h : mkS l = x) (t : Tok) : RelV (.str (mkS l)) (.str x t) := ⟨t, by rw [h]⟩
theorem rv_ref (a : Addr) : RelV (.ref a) (.ref a) := rfl
theorem rv_non : RelV .non .none := rfl
theorem rv_bl (b : Bool) : RelV (.bl b) (.bool b) := rfl
theorem bl_isB : IsBl (kIsB false) := by
  intro x y st d st' e
  cases x <;> cases y <;> first | (cases e; exact ⟨_, rfl⟩) | cases e
/-- what the top has written of a class -/
structure ClsW (K : PySem.W.Frag) (C : Addr) : Prop where
  cl : Cls K C
  cc : PySem.W.findIn K (.ref C) "__class__" = some (some (.builtin "object.__class__"))
  mr : PySem.W.mroIn K C (.type "object") = some true
structure MkAt (K : PySem.W.Frag) (mg : Str → Option Value) (C : Addr) (x qual : Str) (st : Stmt) (ps : List Str) : Prop where
  ex : ∃ (f : Addr) (fd : FuncData), Mk K C f ∧ mg x = some (.ref C) ∧ Fun K "__init__" qual st f fd ∧ Binds K fd ps []
theorem mkAt_mk {h : Heap} (X : K.In h) (G : h.Ns mainGlobals mg) {x qual : Str} {C : Addr} {st : Stmt} {ps : List Str} {f : Addr} {od an : Option Addr} {sl : Array (Option Value)} {oc kV dc pm cd ct : Value}
    (g : PySem.W.nsIn K mainGlobals x = some (some (.ref C))) (mk : PySem.W.makesIn K C = true) (kc : PySem.W.keepIn K (.ref C) = true)
    (a : PySem.W.findIn K (.ref C) "__init__" = some (some (.ref f))) (i : PySem.W.isFn K (.ref f) = true)
    (l : K.lookup f = some ⟨oc, od, .func (PySem.W.fnOf "__init__" qual (defArgs st) (defBody st) (defScope st) .none kV dc pm an cd ct), sl⟩) (c : PySem.W.codeIn K cd qual = true) (k : PySem.W.keepIn K (.ref f) = true)
    (hb : ∀ (kV doc pm : Value) (an : Option Addr) (cdv ct : Value) (us : List Value), us.length = ps.length → bindArgs (PySem.W.fnOf "__init__" qual (defArgs st) (defBody st) (defScope st) .none kV doc pm an cdv ct) ⟨us, []⟩ = pure (ps.zip us)) : MkAt K mg C x qual st ps :=
  ⟨f, _, ⟨mk, a, i, kc⟩, PySem.W.mg_of X G g, fun_mk l c k, (fun_mk l c k).binds hb⟩
theorem mk_fact {P : Program} {base : Heap} {x qual : Str} {st : Stmt} {N ps : List Str} {k c : Nat} {u : MS} (A : MkAt K mg (cad c) x qual st ps) (S : FnScope N ps (defScope st))
    (hbody : ∀ (fa : Addr) (cdv : Value) (A : Around) (outer : List Env) (s : Shared) (H : Hp) (E : XK), Room k (A.deeper (envOfC qual (defScope st) s.heap.objs.size fa cdv)) → ISs (cxOf CX0 P w K mg base N qual (defScope st) fa cdv A outer s H E).nox cad (defBody st) u) :
    MkFact P w K mg base cad x (k + 1) c (mkFn N.length ps.length u) := by
  obtain ⟨f, fd, M, hm, F, hb⟩ := A.ex
  exact ⟨f, fd, ps, M, fn_ok F S (fun cdv A outer s H E hr => hbody f cdv A outer s H E hr), hm, hb⟩
/-! ### a def with defaults that are None, numbers, texts, truths -/
theorem fn_okD {P : Program} {base : Heap} {x qual : Str} {st : Stmt} {fa : Addr} {fd : FuncData} {N ps : List Str} {k : Nat} {u : MS} {dvs : List V} (F : FunD K x qual (defArgs st) (defBody st) (defScope st) dvs [] fa fd) (S : FnScope N ps (defScope st))
    (hbody : ∀ (cdv : Value) (A : Around) (outer : List Env) (s : Shared) (H : Hp) (E : XK), Room k (A.deeper (envOfC qual (defScope st) s.heap.objs.size fa cdv)) → ISs (cxOf CX0 P w K mg base N qual (defScope st) fa cdv A outer s H E).nox cad (defBody st) u) :
    FnOk P w K mg base CX0 (k + 1) fa fd ps (spOf K cad (mkFn N.length ps.length u)) := by
  refine F.ok S (fun vs H Q E h => ?_) (fun cdv A outer s H vs Q E hr h => ?_)
  · obtain ⟨as, st, ds, d, st', R, r, e, _⟩ := h
    unfold mkFn at e
    split at e
    · rename_i hl
      rw [← r.length]
      exact hl
    · cases e
  · refine ⟨_, (hbody cdv A outer s H E hr).nox, ?_⟩
    obtain ⟨as, st, ds, d, st', R, r, e, P⟩ := h
    unfold mkFn at e
    split at e
    · rename_i hl
      have hst : L2.start N vs = vs.map some ++ List.replicate (N.length - ps.length) none := by
        unfold L2.start
        rw [← r.length, hl]
      rw [hst]
      split at e
      · rename_i d' ρ' st'' e1
        cases e
        refine ⟨as, st, _, _, ρ', _, R, ER.start r (N.length - ps.length), e1, fun as' H' σ' x R' E' v rv => P as' H' v x R' rv⟩
      · rename_i ρ' st'' e1
        cases e
        exact ⟨as, st, _, _, ρ', _, R, ER.start r (N.length - ps.length), e1, fun as' H' σ' x R' E' => P as' H' .non x R' .non⟩
      · cases e
    · cases e
end
/-- of a def with defaults: called with all, or without the last of them -/
structure FnD (K : PySem.W.Frag) (mg : Str → Option Value) (x : Str) (st : Stmt) (ps : List Str) (dds : List D) : Prop where
  ex : ∃ (f : Addr) (fd : FuncData) (dvs dvs' : List V) (dus : List Value), mg x = some (.ref f) ∧ FunD K x x (defArgs st) (defBody st) (defScope st) dvs [] f fd ∧ Binds K fd ps dus ∧ Vals dvs' dus ∧ ∀ as H, VRs K as H dds dvs'
section
variable {P : Program} {w : World} {K : PySem.W.Frag} {mg : Str → Option Value} {base : Heap} {cad : Cad}
theorem fn_factD {x : Str} {st : Stmt} {N ps : List Str} {k : Nat} {u : MS} {dds : List D} (A : FnD K mg x st ps dds) (S : FnScope N ps (defScope st))
    (hbody : ∀ (fa : Addr) (cdv : Value) (A : Around) (outer : List Env) (s : Shared) (H : Hp) (E : XK), Room k (A.deeper (envOfC x (defScope st) s.heap.objs.size fa cdv)) → ISs (cxOf CX0 P w K mg base N x (defScope st) fa cdv A outer s H E).nox cad (defBody st) u) :
    FnFact P w K mg base cad x (k + 1) dds (mkFn N.length ps.length u) := by
  obtain ⟨f, fd, dvs, dvs', dus, hm, F, hb, hv, hr⟩ := A.ex
  exact ⟨f, fd, ps, dvs', dus, fn_okD F S (fun cdv A outer s H E hr => hbody f cdv A outer s H E hr), hm, F.kp, hb, hv, hr⟩
/-- n values written of ps.length; the defaults dvs are all the def has -/
theorem fnD_mk {h : Heap} (X : K.In h) (G : h.Ns mainGlobals mg) {x : Str} {st : Stmt} {ps : List Str} {dds : List D} {f T : Addr} {od an oT : Option Addr} {sl sT : Array (Option Value)} {oc kV dc pm cd ct cT : Value} {its : List Value} {m : Nat} {dvs : List V}
    (a : PySem.W.nsIn K mainGlobals x = some (some (.ref f))) (l : K.lookup f = some ⟨oc, od, .func (PySem.W.fnOf x x (defArgs st) (defBody st) (defScope st) (.ref T) kV dc pm an cd ct), sl⟩) (c : PySem.W.codeIn K cd x = true) (k : PySem.W.keepIn K (.ref f) = true)
    (lT : K.lookup T = some ⟨cT, oT, .seq its.toArray m, sT⟩) (hv : Vals dvs its) (hd : dvs ≠ []) (n j : Nat) (hn : n + (dvs.length - j) = ps.length) (hr : ∀ as H, VRs K as H dds (dvs.drop j))
    (hb : ∀ (T : Addr) (kV doc pm : Value) (an : Option Addr) (cdv ct : Value) (us its : List Value), us.length = n → its.length = dvs.length →
      ∃ k, bindArgs (PySem.W.fnOf x x (defArgs st) (defBody st) (defScope st) (.ref T) kV doc pm an cdv ct) ⟨us, []⟩ = seqItems? (.ref T) >>= k ∧ k (some its.toArray) = pure (ps.zip (us ++ its.drop j))) : FnD K mg x st ps dds := by
  have F : FunD K x x (defArgs st) (defBody st) (defScope st) dvs [] f (PySem.W.fnOf x x (defArgs st) (defBody st) (defScope st) (.ref T) kV dc pm an cd ct) := ⟨⟨oc, od, .ref T, kV, dc, pm, an, cd, ct, sl, rfl, l, c, .inr ⟨hd, T, _, its, m, rfl, lT, rfl, hv⟩, .inl rfl⟩, k⟩
  obtain ⟨ds, h1, h2⟩ := F.binds1 n j hd hn hb
  exact ⟨f, _, dvs, dvs.drop j, ds, PySem.W.mg_of X G a, F, h2, h1, hr⟩
end
end MP

set_option maxRecDepth 100000
/-! MP G: rows of classes, fields, get, reckoned; loops over what is written. -/
namespace MP
open PySem PySem.Spec L2
section
variable {st : Sto} {ρ : Rho} {d x y : D} {ds : List D} {f g fo fv fk fd : ME} {ga : MA} {cs : List Nat} {fn : Str} {k c n : Nat} {F : FN} {fs : List (Str × D)} {m : MG} {u : MS} {r : List D}
/-! fields -/
theorem fldM_at : fldM cs fn x st = kVal st (fldO cs fn x st) := rfl
theorem fldO_ins (h : st[k]? = some (.ins c fs)) (hc : c ∈ cs) {d : D} (hl : fs.lookup fn = some d) : fldO cs fn (.ref k) st = some d := by
  simp only [fldO, h, if_pos hc, hl]
theorem setFO_ins (h : st[k]? = some (.ins c fs)) (hc : c ∈ cs) (hl : fs.length < 1000) : setFO cs fn (.ref k) d st = some (st.set k (.ins c (putFD fn d fs))) := by
  simp only [setFO, h, if_pos (And.intro hc hl)]
def kSF3 (ρ : Rho) (r : Option Sto) : RS := r.map fun st' => (.nx, ρ, st')
def kSF2 (cs : List Nat) (fn : Str) (ρ : Rho) (y : D) (r : Option (D × Sto)) : RS := r.bind fun x => kSF3 ρ (setFO cs fn x.1 y x.2)
def kSF1 (cs : List Nat) (fn : Str) (fo : ME) (ρ : Rho) (r : Option (D × Sto)) : RS := r.bind fun y => kSF2 cs fn ρ y.1 (fo ρ y.2)
theorem sFldM_at : sFldM cs fn fo fv ρ st = kSF1 cs fn fo ρ (fv ρ st) := rfl
theorem kSF1_some : kSF1 cs fn fo ρ (some (y, st)) = kSF2 cs fn ρ y (fo ρ st) := rfl
theorem kSF2_some : kSF2 cs fn ρ y (some (x, st)) = kSF3 ρ (setFO cs fn x y st) := rfl
theorem kSF3_some : kSF3 ρ (some st) = some (.nx, ρ, st) := rfl
def kSA2 (cs : List Nat) (fn : Str) (ρ : Rho) (x : D) (st : Sto) (j : Int) (r : Option D) : RS := match r with
  | some (.int i) => kSF3 ρ (setFO cs fn x (.int (i + j)) st)
  | _ => none
def kSA1 (cs : List Nat) (fn : Str) (ρ : Rho) (j : Int) (r : Option (D × Sto)) : RS := r.bind fun x => kSA2 cs fn ρ x.1 x.2 j (fldO cs fn x.1 x.2)
theorem sFldAddM_at {j : Int} : sFldAddM cs fn fo j ρ st = kSA1 cs fn ρ j (fo ρ st) := by
  unfold sFldAddM kSA1
  congr 1
theorem kSA1_some {j : Int} : kSA1 cs fn ρ j (some (x, st)) = kSA2 cs fn ρ x st j (fldO cs fn x st) := rfl
theorem kSA2_int {i j : Int} : kSA2 cs fn ρ x st j (some (.int i)) = kSF3 ρ (setFO cs fn x (.int (i + j)) st) := rfl
/-! instances -/
def kMk2 (n : Nat) (r : Option (D × Sto)) : Option (D × Sto) := r.bind fun q => match q.1 with
  | .non => some (.ref n, q.2)
  | _ => none
def kMk1 (c : Nat) (F : FN) (r : Option (List D × Sto)) : Option (D × Sto) := r.bind fun p => kMk2 p.2.length (F (.ref p.2.length :: p.1) (p.2 ++ [.ins c []]))
theorem eMake_at : eMake c F ga ρ st = kMk1 c F (ga ρ st) := rfl
theorem kMk1_some : kMk1 c F (some (ds, st)) = kMk2 st.length (F (.ref st.length :: ds) (st ++ [.ins c []])) := rfl
theorem kMk2_some : kMk2 n (some (.non, st)) = some (.ref n, st) := rfl
theorem isCM_at {subs : List Nat} : isCM subs n x st = kBl st (isCO subs n x st) := rfl
theorem isCO_non {subs : List Nat} : isCO subs n .non st = some false := rfl
theorem isCO_ins {subs : List Nat} (h : st[k]? = some (.ins c fs)) (hc : c < n) : isCO subs n (.ref k) st = some (decide (c ∈ subs)) := by
  simp only [isCO, h, if_pos hc]
/-! get -/
def kG13 (r : Option D) (st : Sto) : Option (D × Sto) := r.map fun d => (d, st)
def kG12 (k : Nat) (r : Option (D × Sto)) : Option (D × Sto) := r.bind fun y => kG13 (getO k y.1 .non y.2) y.2
def kG11 (fk : ME) (ρ : Rho) (r : Option (D × Sto)) : Option (D × Sto) := r.bind fun x => match x.1 with
  | .ref k => if (myD x.2 k).isSome = true then kG12 k (fk ρ x.2) else none
  | _ => none
theorem eGet1_at : eGet1 fo fk ρ st = kG11 fk ρ (fo ρ st) := rfl
theorem kG11_some (h : (myD st k).isSome = true) : kG11 fk ρ (some (.ref k, st)) = kG12 k (fk ρ st) := if_pos h
theorem kG12_some : kG12 k (some (y, st)) = kG13 (getO k y .non st) st := rfl
theorem kG13_some : kG13 (some d) st = some (d, st) := rfl
def kG23 (k : Nat) (y : D) (r : Option (D × Sto)) : Option (D × Sto) := r.bind fun z => kG13 (getO k y z.1 z.2) z.2
def kG22 (fd : ME) (ρ : Rho) (k : Nat) (r : Option (D × Sto)) : Option (D × Sto) := r.bind fun y => kG23 k y.1 (fd ρ y.2)
def kG21 (fk fd : ME) (ρ : Rho) (r : Option (D × Sto)) : Option (D × Sto) := r.bind fun x => match x.1 with
  | .ref k => if (myD x.2 k).isSome = true then kG22 fd ρ k (fk ρ x.2) else none
  | _ => none
theorem eGet2_at : eGet2 fo fk fd ρ st = kG21 fk fd ρ (fo ρ st) := rfl
theorem kG21_some (h : (myD st k).isSome = true) : kG21 fk fd ρ (some (.ref k, st)) = kG22 fd ρ k (fk ρ st) := if_pos h
theorem kG22_some : kG22 fd ρ k (some (y, st)) = kG23 k y (fd ρ st) := rfl
theorem kG23_some : kG23 k y (some (d, st)) = kG13 (getO k y d st) st := rfl
/-! calls with defaults, written dicts, is True -/
def kCallD (F : FN) (dds : List D) (r : Option (List D × Sto)) : Option (D × Sto) := r.bind fun p => F (p.1 ++ dds) p.2
theorem eCallD_at {dds : List D} : eCallD F dds ga ρ st = kCallD F dds (ga ρ st) := rfl
theorem kCallD_some {dds : List D} : kCallD F dds (some (ds, st)) = F (ds ++ dds) st := rfl
def kKdx (kvs : List (List Nat × D)) (r : Option (D × Sto)) : Option (D × Sto) := r.bind fun p => match p.1 with
  | .str l => kVal p.2 (kvs.lookup l)
  | _ => none
theorem eKdx_at {kvs : List (List Nat × D)} : eKdx kvs f ρ st = kKdx kvs (f ρ st) := rfl
theorem kKdx_some {kvs : List (List Nat × D)} {l : List Nat} : kKdx kvs (some (.str l, st)) = kVal st (kvs.lookup l) := rfl
theorem kIsB_at {a b : Bool} : kIsB false (.bl a) (.bl b) st = some (.bl (decide (a = b)), st) := rfl
/-! append -/
theorem isL_my (h : myL st k = some ds) : isL st (.ref k) = true := by
  show (rdL st k).isSome = true
  rw [myL_rdL h]
  rfl
/-! loops over what is written: turned so that the kernel reckons them -/
def loopT (m : MG) (body : MS) : List D → MS
  | [] => fun ρ st => some (.nx, ρ, st)
  | d :: r => fun ρ st => (m d ρ).bind fun ρ1 => (body ρ1 st).bind fun q => match q.1 with
      | .nx => loopT m body r q.2.1 q.2.2
      | .ct => loopT m body r q.2.1 q.2.2
      | .bk => some (.nx, q.2.1, q.2.2)
      | .rt d => some (.rt d, q.2.1, q.2.2)
theorem loopF_T : ∀ (ds : List D) (ρ : Rho) (st : Sto), loopF (fun _ => True) m u ds ρ st = loopT m u ds ρ st
  | [], ρ, st => loopF_nil
  | d :: r, ρ, st => by
    rw [loopF_cons]
    show kF1 m u r st (m d ρ) = (m d ρ).bind _
    unfold kF1
    cases m d ρ with
    | none => rfl
    | some ρ1 =>
      show kF2 m u r (u ρ1 st) = (u ρ1 st).bind _
      unfold kF2
      cases u ρ1 st with
      | none => rfl
      | some q =>
        obtain ⟨fl, ρ2, st2⟩ := q
        cases fl with
        | nx => exact loopF_T r ρ2 st2
        | ct => exact loopF_T r ρ2 st2
        | bk => rfl
        | rt d => rfl
def sForT (ds : List D) (m : MG) (body : MS) : MS := loopT m body ds
theorem sFor_tupT : sFor (iV (eC (.tup ds))) m u = sForT ds m u := by
  funext ρ st
  exact (sFor_run (ds := ds) (st' := st) rfl).trans (loopF_T ds ρ st)
end
/-! plain data are equal to themselves -/
theorem toP_self (st : Sto) : ∀ (n : Nat) (d : D), PD n d → ∃ p, toP st n d = some p ∧ PyData.eqv p p = true
  | 0, _, h => h.elim
  | n + 1, .non, _ => ⟨_, rfl, by simp [PyData.eqv]⟩
  | n + 1, .bl b, _ => ⟨_, rfl, by simp [PyData.eqv]⟩
  | n + 1, .int b, _ => ⟨_, rfl, by simp [PyData.eqv]⟩
  | n + 1, .str b, _ => ⟨_, rfl, by simp [PyData.eqv]⟩
  | n + 1, .ref _, h => h.elim
  | n + 1, .tup ds, h => by
    have hd := h.2
    have all : ∀ ds : List D, (∀ d ∈ ds, PD n d) → ∃ ps, mapO (toP st n) ds = some ps ∧ PyData.eqvAll ps ps = true := fun ds => by
      induction ds with
      | nil => exact fun _ => ⟨[], rfl, by simp [PyData.eqvAll]⟩
      | cons d r ih =>
        intro hx
        obtain ⟨p, e1, e2⟩ := toP_self st n d (hx d (.head _))
        obtain ⟨ps, e3, e4⟩ := ih fun x hm => hx x (.tail _ hm)
        exact ⟨p :: ps, by simp [mapO, e1, e3], by simp [PyData.eqvAll, e2, e4]⟩
    obtain ⟨ps, e1, e2⟩ := all ds hd
    exact ⟨.tuple ps, by simp [toP, e1], by simpa [PyData.eqv] using e2⟩
theorem eqO_self {st : Sto} {d : D} (h : PD 50 d) : eqO st d d = some true := by
  obtain ⟨p, e1, e2⟩ := toP_self st 50 d h
  have e1' : toP st DEEP d = some p := e1
  simp only [eqO, e1', e2]
theorem PD_tup {n : Nat} {ds : List D} (hl : ds.length ≤ 1000) (h : ∀ d ∈ ds, PD n d) : PD (n + 1) (.tup ds) := ⟨by unfold LIM; omega, h⟩
end MP

set_option maxRecDepth 100000
/-! MP H: loops over lists of the store. -/
namespace MP
open PySem PySem.Spec L2
section
variable {m : MG} {u : MS} {st : Sto} {chk : Sto → Prop}
theorem sFor_runC {fi : MI} {ρ : Rho} {ds : List D} {st' : Sto} (h : fi ρ st = some ((ds, chk), st')) : sFor fi m u ρ st = loopF chk m u ds ρ st' := by
  unfold sFor
  rw [h]
  rfl
/-- a loop that leaves the store as it is -/
theorem loopF_still (hc : chk st) (P : Rho → Prop) : ∀ (ds : List D) (ρ : Rho), (∀ d ∈ ds, ∀ ρ, P ρ → ∃ ρ1 ρ2, m d ρ = some ρ1 ∧ u ρ1 st = some (.nx, ρ2, st) ∧ P ρ2) → P ρ → ∃ ρ', loopF chk m u ds ρ st = some (.nx, ρ', st) ∧ P ρ'
  | [], ρ, _, hp => ⟨ρ, by
    unfold loopF
    rw [if_pos hc], hp⟩
  | d :: r, ρ, h, hp => by
    obtain ⟨ρ1, ρ2, e1, e2, p2⟩ := h d (.head _) ρ hp
    obtain ⟨ρ', e3, p3⟩ := loopF_still hc P r ρ2 (fun x hx => h x (.tail _ hx)) p2
    refine ⟨ρ', ?_, p3⟩
    unfold loopF
    rw [if_pos hc, e1, Option.bind_some, e2, Option.bind_some]
    exact e3
theorem iV_lst {f : ME} {ρ : Rho} {k : Nat} {ds : List D} {st' : Sto} (h : f ρ st = some (.ref k, st')) (hl : rdL st' k = some ds) : iV f ρ st = some ((ds, fun s => rdL s k = some ds), st') := by
  unfold iV
  rw [h, Option.bind_some]
  simp only [hl]
  rfl
theorem loopC_calmC {f : ME} {ρ0 : Rho} {v : D → D} (hk : ∀ acc, chk (st ++ [.lst acc])) : ∀ (ds : List D) (acc : List D),
    (∀ d ∈ ds, ∀ acc, ∃ ρ1, m d ρ0 = some ρ1 ∧ f ρ1 (st ++ [.lst acc]) = some (v d, st ++ [.lst acc])) →
    acc.length + ds.length ≤ LIM → loopC chk m tYesM f ρ0 st.length ds (st ++ [.lst acc]) = some (st ++ [.lst (acc ++ ds.map v)])
  | [], acc, _, _ => by
    unfold loopC
    rw [if_pos (hk acc)]
    simp
  | d :: r, acc, h, hl => by
    rw [List.length_cons] at hl
    obtain ⟨ρ1, e1, e2⟩ := h d (.head _) acc
    have e3 := loopC_calmC hk r (acc ++ [v d]) (fun x hx => h x (.tail _ hx)) (by rw [List.length_append, List.length_singleton]; omega)
    unfold loopC
    rw [if_pos (hk acc), e1, Option.bind_some]
    show (Option.bind (some (true, st ++ [.lst acc])) _) = _
    rw [Option.bind_some]
    simp only [if_true]
    rw [e2, Option.bind_some]
    simp only [myL_end]
    rw [if_pos (by omega), set_end, e3]
    simp [List.append_assoc]
theorem eLc_calmC {fi : MI} {f : ME} {ρ : Rho} {vs : List Nat} {v : D → D} {ds : List D} (hi : fi ρ st = some ((ds, chk), st)) (hk : ∀ acc, chk (st ++ [.lst acc])) (hl : ds.length ≤ LIM)
    (h : ∀ d ∈ ds, ∀ acc, ∃ ρ1, m d (wipeD ρ vs) = some ρ1 ∧ f ρ1 (st ++ [.lst acc]) = some (v d, st ++ [.lst acc])) :
    eLc vs fi m tYesM f ρ st = some (.ref st.length, st ++ [.lst (ds.map v)]) := by
  have e := loopC_calmC hk ds [] h (by simpa using hl)
  unfold eLc
  rw [hi, Option.bind_some]
  show Option.map _ (loopC chk m tYesM f (wipeD ρ vs) st.length ds (st ++ [.lst []])) = _
  rw [e]
  rfl
theorem rngD_succ (lo : Int) (n : Nat) : rngD lo (n + 1) = .int lo :: rngD (lo + 1) n := by
  unfold rngD
  rw [List.range_succ_eq_map, List.map_cons, List.map_map]
  congr 1
  · simp
  · refine List.map_congr_left fun i _ => ?_
    show D.int (lo + ((i + 1 : Nat) : Int)) = D.int (lo + 1 + (i : Int))
    congr 1
    omega
end
end MP

set_option maxRecDepth 100000
set_option maxHeartbeats 4000000
/-! the text of law_k13_givers: its defs, their mirrors, and that they do what these tell (printed by gen.py) -/
namespace Text
open PySem PySem.Spec PyProof.Rows L2 MP
def topS (i : Nat) : Stmt := PySem.Challenge.pw_grassnake_k13_givers.main.body.getD i (.Pass ⟨0, 0, 0, 0⟩)
abbrev s_Given_init : Stmt := inClass (topS 6) 0
abbrev N_Given_init : List Str := ["self", "name"]
theorem sc_Given_init : FnScope N_Given_init ["self", "name"] (defScope s_Given_init) := ⟨rfl, rfl, rfl, by decide +kernel, rfl, by decide +kernel, by decide +kernel⟩
abbrev s_Method_init : Stmt := inClass (topS 7) 0
abbrev N_Method_init : List Str := ["self", "function", "owner"]
theorem sc_Method_init : FnScope N_Method_init ["self", "function", "owner"] (defScope s_Method_init) := ⟨rfl, rfl, rfl, by decide +kernel, rfl, by decide +kernel, by decide +kernel⟩
abbrev s_Kind_init : Stmt := inClass (topS 8) 0
abbrev N_Kind_init : List Str := ["self", "name", "order", "fields", "is_given"]
theorem sc_Kind_init : FnScope N_Kind_init ["self", "name", "order", "fields", "is_given"] (defScope s_Kind_init) := ⟨rfl, rfl, rfl, by decide +kernel, rfl, by decide +kernel, by decide +kernel⟩
abbrev s_Made_init : Stmt := inClass (topS 9) 0
abbrev N_Made_init : List Str := ["self", "kind", "fields"]
theorem sc_Made_init : FnScope N_Made_init ["self", "kind", "fields"] (defScope s_Made_init) := ⟨rfl, rfl, rfl, by decide +kernel, rfl, by decide +kernel, by decide +kernel⟩
abbrev s_Giver_init : Stmt := inClass (topS 10) 0
abbrev N_Giver_init : List Str := ["self", "name", "frame", "end"]
theorem sc_Giver_init : FnScope N_Giver_init ["self", "name", "frame", "end"] (defScope s_Giver_init) := ⟨rfl, rfl, rfl, by decide +kernel, rfl, by decide +kernel, by decide +kernel⟩
abbrev s_View_init : Stmt := inClass (topS 11) 0
abbrev N_View_init : List Str := ["self", "order", "owner"]
theorem sc_View_init : FnScope N_View_init ["self", "order", "owner"] (defScope s_View_init) := ⟨rfl, rfl, rfl, by decide +kernel, rfl, by decide +kernel, by decide +kernel⟩
abbrev s_put_record : Stmt := topS 13
abbrev N_put_record : List Str := ["world", "record"]
theorem sc_put_record : FnScope N_put_record ["world", "record"] (defScope s_put_record) := ⟨rfl, rfl, rfl, by decide +kernel, rfl, by decide +kernel, by decide +kernel⟩
abbrev s_record_of : Stmt := topS 14
abbrev N_record_of : List Str := ["world", "a"]
theorem sc_record_of : FnScope N_record_of ["world", "a"] (defScope s_record_of) := ⟨rfl, rfl, rfl, by decide +kernel, rfl, by decide +kernel, by decide +kernel⟩
abbrev s_World_init : Stmt := inClass (topS 12) 0
abbrev N_World_init : List Str := ["self", "inputs", "name", "elder", "order"]
theorem sc_World_init : FnScope N_World_init ["self", "inputs"] (defScope s_World_init) := ⟨rfl, rfl, rfl, by decide +kernel, rfl, by decide +kernel, by decide +kernel⟩
abbrev s_known : Stmt := topS 15
abbrev N_known : List Str := ["world", "name"]
theorem sc_known : FnScope N_known ["world", "name"] (defScope s_known) := ⟨rfl, rfl, rfl, by decide +kernel, rfl, by decide +kernel, by decide +kernel⟩
abbrev s_giver : Stmt := topS 16
abbrev N_giver : List Str := ["world", "name", "frame"]
theorem sc_giver : FnScope N_giver ["world", "name", "frame"] (defScope s_giver) := ⟨rfl, rfl, rfl, by decide +kernel, rfl, by decide +kernel, by decide +kernel⟩
abbrev s_is_giver : Stmt := topS 17
abbrev N_is_giver : List Str := ["world", "a"]
theorem sc_is_giver : FnScope N_is_giver ["world", "a"] (defScope s_is_giver) := ⟨rfl, rfl, rfl, by decide +kernel, rfl, by decide +kernel, by decide +kernel⟩
abbrev s_frame_of : Stmt := topS 18
abbrev N_frame_of : List Str := ["world", "g"]
theorem sc_frame_of : FnScope N_frame_of ["world", "g"] (defScope s_frame_of) := ⟨rfl, rfl, rfl, by decide +kernel, rfl, by decide +kernel, by decide +kernel⟩
abbrev s_state_of : Stmt := topS 19
abbrev N_state_of : List Str := ["world", "g"]
theorem sc_state_of : FnScope N_state_of ["world", "g"] (defScope s_state_of) := ⟨rfl, rfl, rfl, by decide +kernel, rfl, by decide +kernel, by decide +kernel⟩
abbrev s_set_state : Stmt := topS 20
abbrev N_set_state : List Str := ["world", "g", "state", "record"]
theorem sc_set_state : FnScope N_set_state ["world", "g", "state"] (defScope s_set_state) := ⟨rfl, rfl, rfl, by decide +kernel, rfl, by decide +kernel, by decide +kernel⟩
abbrev s_is_under : Stmt := topS 22
abbrev N_is_under : List Str := ["world", "kind", "elder"]
theorem sc_is_under : FnScope N_is_under ["world", "kind", "elder"] (defScope s_is_under) := ⟨rfl, rfl, rfl, by decide +kernel, rfl, by decide +kernel, by decide +kernel⟩
abbrev s_is_fault_class : Stmt := topS 23
abbrev N_is_fault_class : List Str := ["world", "a"]
theorem sc_is_fault_class : FnScope N_is_fault_class ["world", "a"] (defScope s_is_fault_class) := ⟨rfl, rfl, rfl, by decide +kernel, rfl, by decide +kernel, by decide +kernel⟩
abbrev s_is_fault : Stmt := topS 24
abbrev N_is_fault : List Str := ["world", "a", "record"]
theorem sc_is_fault : FnScope N_is_fault ["world", "a"] (defScope s_is_fault) := ⟨rfl, rfl, rfl, by decide +kernel, rfl, by decide +kernel, by decide +kernel⟩
abbrev s_new_object : Stmt := topS 25
abbrev N_new_object : List Str := ["world", "kind", "fields"]
theorem sc_new_object : FnScope N_new_object ["world", "kind"] (defScope s_new_object) := ⟨rfl, rfl, rfl, by decide +kernel, rfl, by decide +kernel, by decide +kernel⟩
abbrev s_made : Stmt := topS 26
abbrev N_made : List Str := ["world", "name", "word", "fault"]
theorem sc_made : FnScope N_made ["world", "name", "word"] (defScope s_made) := ⟨rfl, rfl, rfl, by decide +kernel, rfl, by decide +kernel, by decide +kernel⟩
abbrev s_found_in : Stmt := topS 29
abbrev N_found_in : List Str := ["world", "order", "name", "kind", "fields"]
theorem sc_found_in : FnScope N_found_in ["world", "order", "name"] (defScope s_found_in) := ⟨rfl, rfl, rfl, by decide +kernel, rfl, by decide +kernel, by decide +kernel⟩
abbrev s_by_way_of : Stmt := topS 30
abbrev N_by_way_of : List Str := ["world", "found", "owner"]
theorem sc_by_way_of : FnScope N_by_way_of ["world", "found", "owner"] (defScope s_by_way_of) := ⟨rfl, rfl, rfl, by decide +kernel, rfl, by decide +kernel, by decide +kernel⟩
abbrev s_field_of : Stmt := topS 31
abbrev N_field_of : List Str := ["world", "a", "name", "record", "order", "found"]
theorem sc_field_of : FnScope N_field_of ["world", "a", "name"] (defScope s_field_of) := ⟨rfl, rfl, rfl, by decide +kernel, rfl, by decide +kernel, by decide +kernel⟩
abbrev s_text_of : Stmt := topS 32
abbrev N_text_of : List Str := ["world", "a"]
theorem sc_text_of : FnScope N_text_of ["world", "a"] (defScope s_text_of) := ⟨rfl, rfl, rfl, by decide +kernel, rfl, by decide +kernel, by decide +kernel⟩
abbrev s_entered : Stmt := topS 38
abbrev N_entered : List Str := ["world", "a", "values", "record", "lacking"]
theorem sc_entered : FnScope N_entered ["world", "a", "values"] (defScope s_entered) := ⟨rfl, rfl, rfl, by decide +kernel, rfl, by decide +kernel, by decide +kernel⟩
abbrev s_begun_object : Stmt := topS 39
abbrev N_begun_object : List Str := ["world", "a", "values", "found", "start"]
theorem sc_begun_object : FnScope N_begun_object ["world", "a", "values"] (defScope s_begun_object) := ⟨rfl, rfl, rfl, by decide +kernel, rfl, by decide +kernel, by decide +kernel⟩
abbrev s_next_input : Stmt := topS 40
abbrev N_next_input : List Str := ["world"]
theorem sc_next_input : FnScope N_next_input ["world"] (defScope s_next_input) := ⟨rfl, rfl, rfl, by decide +kernel, rfl, by decide +kernel, by decide +kernel⟩
abbrev s_is_of : Stmt := topS 41
abbrev N_is_of : List Str := ["world", "x", "kind", "record"]
theorem sc_is_of : FnScope N_is_of ["world", "x", "kind"] (defScope s_is_of) := ⟨rfl, rfl, rfl, by decide +kernel, rfl, by decide +kernel, by decide +kernel⟩
abbrev s_view_made : Stmt := topS 42
abbrev N_view_made : List Str := ["world", "kind", "x", "record", "order"]
theorem sc_view_made : FnScope N_view_made ["world", "kind", "x"] (defScope s_view_made) := ⟨rfl, rfl, rfl, by decide +kernel, rfl, by decide +kernel, by decide +kernel⟩
abbrev s_count_giver : Stmt := topS 43
abbrev N_count_giver : List Str := ["world", "n"]
theorem sc_count_giver : FnScope N_count_giver ["world", "n"] (defScope s_count_giver) := ⟨rfl, rfl, rfl, by decide +kernel, rfl, by decide +kernel, by decide +kernel⟩
abbrev s_gone_on : Stmt := topS 44
abbrev N_gone_on : List Str := ["world", "g", "v", "record"]
theorem sc_gone_on : FnScope N_gone_on ["world", "g", "v"] (defScope s_gone_on) := ⟨rfl, rfl, rfl, by decide +kernel, rfl, by decide +kernel, by decide +kernel⟩
abbrev s_thrown : Stmt := topS 45
abbrev N_thrown : List Str := ["world", "g", "fault", "state"]
theorem sc_thrown : FnScope N_thrown ["world", "g", "fault"] (defScope s_thrown) := ⟨rfl, rfl, rfl, by decide +kernel, rfl, by decide +kernel, by decide +kernel⟩
abbrev s_shut_down : Stmt := topS 46
abbrev N_shut_down : List Str := ["world", "g", "record"]
theorem sc_shut_down : FnScope N_shut_down ["world", "g"] (defScope s_shut_down) := ⟨rfl, rfl, rfl, by decide +kernel, rfl, by decide +kernel, by decide +kernel⟩
abbrev s_called_giver : Stmt := topS 47
abbrev N_called_giver : List Str := ["world", "name", "values"]
theorem sc_called_giver : FnScope N_called_giver ["world", "name", "values"] (defScope s_called_giver) := ⟨rfl, rfl, rfl, by decide +kernel, rfl, by decide +kernel, by decide +kernel⟩
abbrev s_called_given : Stmt := topS 48
abbrev N_called_given : List Str := ["world", "name", "values", "least", "most"]
theorem sc_called_given : FnScope N_called_given ["world", "name", "values"] (defScope s_called_given) := ⟨rfl, rfl, rfl, by decide +kernel, rfl, by decide +kernel, by decide +kernel⟩
abbrev s_called : Stmt := topS 49
abbrev N_called : List Str := ["world", "a", "values", "record"]
theorem sc_called : FnScope N_called ["world", "a", "values"] (defScope s_called) := ⟨rfl, rfl, rfl, by decide +kernel, rfl, by decide +kernel, by decide +kernel⟩
abbrev s_asked : Stmt := topS 50
abbrev N_asked : List Str := ["world", "g", "state"]
theorem sc_asked : FnScope N_asked ["world", "g"] (defScope s_asked) := ⟨rfl, rfl, rfl, by decide +kernel, rfl, by decide +kernel, by decide +kernel⟩
abbrev s_counted_on : Stmt := topS 51
abbrev N_counted_on : List Str := ["world", "g", "record"]
theorem sc_counted_on : FnScope N_counted_on ["world", "g"] (defScope s_counted_on) := ⟨rfl, rfl, rfl, by decide +kernel, rfl, by decide +kernel, by decide +kernel⟩
abbrev s_l_cell_at : Stmt := topS 53
abbrev N_l_cell_at : List Str := ["_law_script", "_law_k"]
theorem sc_l_cell_at : FnScope N_l_cell_at ["_law_script", "_law_k"] (defScope s_l_cell_at) := ⟨rfl, rfl, rfl, by decide +kernel, rfl, by decide +kernel, by decide +kernel⟩
abbrev s_l_cell : Stmt := topS 54
abbrev N_l_cell : List Str := ["_law_cells", "_law_spot", "_law_k", "_law_base"]
theorem sc_l_cell : FnScope N_l_cell ["_law_cells", "_law_spot"] (defScope s_l_cell) := ⟨rfl, rfl, rfl, by decide +kernel, rfl, by decide +kernel, by decide +kernel⟩
abbrev s_l_plain : Stmt := topS 55
abbrev N_l_plain : List Str := ["_law_n", "_law_some"]
theorem sc_l_plain : FnScope N_l_plain ["_law_n"] (defScope s_l_plain) := ⟨rfl, rfl, rfl, by decide +kernel, rfl, by decide +kernel, by decide +kernel⟩
abbrev s_l_wrong : Stmt := topS 56
abbrev N_l_wrong : List Str := ["_law_world", "_law_n", "_law_one", "_law_fault", "_law_g", "_law_some", "_law_word", "_law_values"]
theorem sc_l_wrong : FnScope N_l_wrong ["_law_world", "_law_n", "_law_one", "_law_fault"] (defScope s_l_wrong) := ⟨rfl, rfl, rfl, by decide +kernel, rfl, by decide +kernel, by decide +kernel⟩
abbrev s_l_go : Stmt := topS 57
abbrev N_l_go : List Str := ["_law_world", "_law_one", "_law_v", "_law_found"]
theorem sc_l_go : FnScope N_l_go ["_law_world", "_law_one", "_law_v", "_law_found"] (defScope s_l_go) := ⟨rfl, rfl, rfl, by decide +kernel, rfl, by decide +kernel, by decide +kernel⟩
abbrev s_l_counted : Stmt := topS 58
abbrev N_l_counted : List Str := ["_law_world", "_law_one", "_law_found"]
theorem sc_l_counted : FnScope N_l_counted ["_law_world", "_law_one"] (defScope s_l_counted) := ⟨rfl, rfl, rfl, by decide +kernel, rfl, by decide +kernel, by decide +kernel⟩
abbrev s_l_goes_on : Stmt := topS 59
abbrev N_l_goes_on : List Str := ["_law_world", "_law_one", "_law_n", "_law_v", "_law_found", "_law_due", "_law_right", "_law_values"]
theorem sc_l_goes_on : FnScope N_l_goes_on ["_law_world", "_law_one", "_law_n"] (defScope s_l_goes_on) := ⟨rfl, rfl, rfl, by decide +kernel, rfl, by decide +kernel, by decide +kernel⟩
abbrev s_l_thrown : Stmt := topS 60
abbrev N_l_thrown : List Str := ["_law_world", "_law_one", "_law_fault", "_law_found"]
theorem sc_l_thrown : FnScope N_l_thrown ["_law_world", "_law_one", "_law_fault"] (defScope s_l_thrown) := ⟨rfl, rfl, rfl, by decide +kernel, rfl, by decide +kernel, by decide +kernel⟩
abbrev s_l_shut : Stmt := topS 61
abbrev N_l_shut : List Str := ["_law_world", "_law_one", "_law_found"]
theorem sc_l_shut : FnScope N_l_shut ["_law_world", "_law_one"] (defScope s_l_shut) := ⟨rfl, rfl, rfl, by decide +kernel, rfl, by decide +kernel, by decide +kernel⟩
abbrev s_l_deed : Stmt := topS 62
abbrev N_l_deed : List Str := ["_law_world", "_law_givers", "_law_cells", "_law_spot", "_law_n", "_law_one", "_law_more", "_law_fault"]
theorem sc_l_deed : FnScope N_l_deed ["_law_world", "_law_givers", "_law_cells", "_law_spot"] (defScope s_l_deed) := ⟨rfl, rfl, rfl, by decide +kernel, rfl, by decide +kernel, by decide +kernel⟩
abbrev s_l_far_right : Stmt := topS 63
abbrev N_l_far_right : List Str := ["_law_world", "_law_end", "_law_g", "_law_k"]
theorem sc_l_far_right : FnScope N_l_far_right ["_law_world", "_law_end"] (defScope s_l_far_right) := ⟨rfl, rfl, rfl, by decide +kernel, rfl, by decide +kernel, by decide +kernel⟩
abbrev s_law : Stmt := topS 64
abbrev N_law : List Str := ["_law_script", "_law_cells", "_law_spot", "_law_world", "_law_givers", "_law_k", "_law_frame", "_law_end", "_law_found", "_law_turn", "_law_one", "_law_n"]
theorem sc_law : FnScope N_law ["_law_script"] (defScope s_law) := ⟨rfl, rfl, rfl, by decide +kernel, rfl, by decide +kernel, by decide +kernel⟩
/-- what the top has written -/
structure Txt (K : PySem.W.Frag) (w : World) (mg : Str → Option Value) (cad : Cad) : Prop where
  b_all : mg "all" = none
  b_int : mg "int" = none
  b_isinstance : mg "isinstance" = none
  b_len : mg "len" = none
  b_list : mg "list" = none
  b_range : mg "range" = none
  b_str : mg "str" = none
  b_tuple : mg "tuple" = none
  c_COUNTS : GDic K w mg "COUNTS" [([115, 97, 121], .tup [.int 1, .int 1]), ([116, 97, 107, 101], .tup [.int 0, .int 0]), ([105, 115, 97], .tup [.int 2, .int 2]), ([101, 108, 100, 101, 114], .tup [.int 2, .int 2]), ([99, 111, 117, 110, 116], .tup [.int 1, .int 1]), ([103, 111], .tup [.int 1, .int 2]), ([116, 104, 114, 111, 119], .tup [.int 2, .int 2]), ([115, 104, 117, 116], .tup [.int 1, .int 1])]
  c_ENDED : GTup K mg "ENDED" (.tup [.str [102, 97, 117, 108, 116], .str [69, 110, 100, 70, 97, 117, 108, 116]])
  c_FAULT : GTup K mg "FAULT" (.tup [.str [102, 97, 117, 108, 116], .str [70, 105, 101, 108, 100, 70, 97, 117, 108, 116]])
  c_GIVEN_CLASSES : GTup K mg "GIVEN_CLASSES" (.tup [.tup [.str [84, 104, 105, 110, 103], .str []], .tup [.str [70, 97, 117, 108, 116], .str [84, 104, 105, 110, 103]], .tup [.str [78, 97, 109, 101, 70, 97, 117, 108, 116], .str [70, 97, 117, 108, 116]], .tup [.str [75, 105, 110, 100, 70, 97, 117, 108, 116], .str [70, 97, 117, 108, 116]], .tup [.str [78, 111, 117, 103, 104, 116, 70, 97, 117, 108, 116], .str [70, 97, 117, 108, 116]], .tup [.str [71, 114, 101, 97, 116, 70, 97, 117, 108, 116], .str [70, 97, 117, 108, 116]], .tup [.str [70, 105, 101, 108, 100, 70, 97, 117, 108, 116], .str [70, 97, 117, 108, 116]], .tup [.str [79, 114, 100, 101, 114, 70, 97, 117, 108, 116], .str [70, 97, 117, 108, 116]], .tup [.str [69, 110, 100, 70, 97, 117, 108, 116], .str [70, 97, 117, 108, 116]], .tup [.str [83, 104, 117, 116, 70, 97, 117, 108, 116], .str [70, 97, 117, 108, 116]], .tup [.str [68, 101, 101, 112, 70, 97, 117, 108, 116], .str [70, 97, 117, 108, 116]], .tup [.str [85, 110, 98, 111, 117, 110, 100, 70, 97, 117, 108, 116], .str [78, 97, 109, 101, 70, 97, 117, 108, 116]]])
  c_GIVEN_FUNCTIONS : GTup K mg "GIVEN_FUNCTIONS" (.tup [.str [115, 97, 121], .str [116, 97, 107, 101], .str [105, 115, 97], .str [101, 108, 100, 101, 114], .str [99, 111, 117, 110, 116], .str [103, 111], .str [116, 104, 114, 111, 119], .str [115, 104, 117, 116]])
  c_MOST_COUNTED : ∃ t, mg "MOST_COUNTED" = some (.int 10000 t)
  c_NONE : GTup K mg "NONE" (.tup [.str [110, 111, 110, 101]])
  c_WRONG : GTup K mg "WRONG" (.tup [.str [102, 97, 117, 108, 116], .str [75, 105, 110, 100, 70, 97, 117, 108, 116]])
  x_at : FldF K cad [6] "at"
  x_defaults : FldF K cad [1] "defaults"
  x_end : FldF K cad [6] "end"
  x_fields : FldF K cad [4, 5] "fields"
  x_frame : FldF K cad [6] "frame"
  x_function : FldF K cad [3] "function"
  x_given_things : FldF K cad [8] "given_things"
  x_is_given : FldF K cad [4] "is_given"
  x_kind : FldF K cad [5] "kind"
  x_left : FldF K cad [8] "left"
  x_lines : FldF K cad [8] "lines"
  x_name : FldF K cad [1, 2, 4, 6] "name"
  x_order : FldF K cad [4, 7] "order"
  x_owner : FldF K cad [3, 7] "owner"
  x_params : FldF K cad [1] "params"
  x_state : FldF K cad [6] "state"
  x_things : FldF K cad [8] "things"
  g_Function : mg "Function" = some (.ref (cad 1))
  i_Function : IsF K cad 1 [1] 9
  g_Given : mg "Given" = some (.ref (cad 2))
  i_Given : IsF K cad 2 [2] 9
  g_Giver : mg "Giver" = some (.ref (cad 6))
  i_Giver : IsF K cad 6 [6] 9
  g_Kind : mg "Kind" = some (.ref (cad 4))
  i_Kind : IsF K cad 4 [4] 9
  g_Made : mg "Made" = some (.ref (cad 5))
  i_Made : IsF K cad 5 [5] 9
  g_Method : mg "Method" = some (.ref (cad 3))
  i_Method : IsF K cad 3 [3] 9
  g_View : mg "View" = some (.ref (cad 7))
  i_View : IsF K cad 7 [7] 9
  f_Given_init : MkAt K mg (cad 2) "Given" "Given.__init__" s_Given_init ["self", "name"]
  f_Method_init : MkAt K mg (cad 3) "Method" "Method.__init__" s_Method_init ["self", "function", "owner"]
  f_Kind_init : MkAt K mg (cad 4) "Kind" "Kind.__init__" s_Kind_init ["self", "name", "order", "fields", "is_given"]
  f_Made_init : MkAt K mg (cad 5) "Made" "Made.__init__" s_Made_init ["self", "kind", "fields"]
  f_Giver_init : MkAt K mg (cad 6) "Giver" "Giver.__init__" s_Giver_init ["self", "name", "frame", "end"]
  f_View_init : MkAt K mg (cad 7) "View" "View.__init__" s_View_init ["self", "order", "owner"]
  f_put_record : FnAt K mg "put_record" s_put_record ["world", "record"]
  f_record_of : FnAt K mg "record_of" s_record_of ["world", "a"]
  f_World_init : MkAt K mg (cad 8) "World" "World.__init__" s_World_init ["self", "inputs"]
  f_known : FnAt K mg "known" s_known ["world", "name"]
  f_giver : FnAt K mg "giver" s_giver ["world", "name", "frame"]
  f_is_giver : FnAt K mg "is_giver" s_is_giver ["world", "a"]
  f_frame_of : FnAt K mg "frame_of" s_frame_of ["world", "g"]
  f_state_of : FnAt K mg "state_of" s_state_of ["world", "g"]
  f_set_state : FnAt K mg "set_state" s_set_state ["world", "g", "state"]
  f_is_under : FnAt K mg "is_under" s_is_under ["world", "kind", "elder"]
  f_is_fault_class : FnAt K mg "is_fault_class" s_is_fault_class ["world", "a"]
  f_is_fault : FnAt K mg "is_fault" s_is_fault ["world", "a"]
  f_new_object : FnAt K mg "new_object" s_new_object ["world", "kind"]
  f_made_1 : FnD K mg "made" s_made ["world", "name", "word"] [.non]
  f_found_in : FnAt K mg "found_in" s_found_in ["world", "order", "name"]
  f_by_way_of : FnAt K mg "by_way_of" s_by_way_of ["world", "found", "owner"]
  f_field_of : FnAt K mg "field_of" s_field_of ["world", "a", "name"]
  f_text_of : FnAt K mg "text_of" s_text_of ["world", "a"]
  f_entered : FnAt K mg "entered" s_entered ["world", "a", "values"]
  f_begun_object : FnAt K mg "begun_object" s_begun_object ["world", "a", "values"]
  f_next_input : FnAt K mg "next_input" s_next_input ["world"]
  f_is_of : FnAt K mg "is_of" s_is_of ["world", "x", "kind"]
  f_view_made : FnAt K mg "view_made" s_view_made ["world", "kind", "x"]
  f_count_giver : FnAt K mg "count_giver" s_count_giver ["world", "n"]
  f_gone_on : FnAt K mg "gone_on" s_gone_on ["world", "g", "v"]
  f_thrown : FnAt K mg "thrown" s_thrown ["world", "g", "fault"]
  f_shut_down : FnAt K mg "shut_down" s_shut_down ["world", "g"]
  f_called_giver : FnAt K mg "called_giver" s_called_giver ["world", "name", "values"]
  f_called_given : FnAt K mg "called_given" s_called_given ["world", "name", "values"]
  f_called : FnAt K mg "called" s_called ["world", "a", "values"]
  f_asked : FnAt K mg "asked" s_asked ["world", "g"]
  f_counted_on : FnAt K mg "counted_on" s_counted_on ["world", "g"]
  f_l_cell_at : FnAt K mg "_law_cell_at" s_l_cell_at ["_law_script", "_law_k"]
  f_l_cell : FnAt K mg "_law_cell" s_l_cell ["_law_cells", "_law_spot"]
  f_l_plain : FnAt K mg "_law_plain" s_l_plain ["_law_n"]
  f_l_wrong : FnAt K mg "_law_wrong" s_l_wrong ["_law_world", "_law_n", "_law_one", "_law_fault"]
  f_l_go : FnAt K mg "_law_go" s_l_go ["_law_world", "_law_one", "_law_v", "_law_found"]
  f_l_counted : FnAt K mg "_law_counted" s_l_counted ["_law_world", "_law_one"]
  f_l_goes_on : FnAt K mg "_law_goes_on" s_l_goes_on ["_law_world", "_law_one", "_law_n"]
  f_l_thrown : FnAt K mg "_law_thrown" s_l_thrown ["_law_world", "_law_one", "_law_fault"]
  f_l_shut : FnAt K mg "_law_shut" s_l_shut ["_law_world", "_law_one"]
  f_l_deed : FnAt K mg "_law_deed" s_l_deed ["_law_world", "_law_givers", "_law_cells", "_law_spot"]
  f_l_far_right : FnAt K mg "_law_far_right" s_l_far_right ["_law_world", "_law_end"]
  f_law : FnAt K mg "law" s_law ["_law_script"]
section
variable {P : Program} {w : World} {K : PySem.W.Frag} {mg : Str → Option Value} {base : Heap} {cad : Cad}
/-! ### Given.__init__ -/
noncomputable def b_Given_init : MS :=
    (sFldM [1, 2, 4, 6] "name" (eVar 0) (eVar 1))
noncomputable def F_Given_init : FN := mkFn 2 2 b_Given_init
theorem fact_Given_init (T : Txt K w mg cad) : MkFact P w K mg base cad "Given" 1 2 F_Given_init := by
  exact mk_fact (k := 0) (N := N_Given_init) T.f_Given_init sc_Given_init fun fa cdv A outer s H E hr => by
    have hu := hr.units
    exact
      (iss_one (is_fld T.x_name (ie_var (pv 0)) (ie_var (pv 1))))
/-! ### Method.__init__ -/
noncomputable def b_Method_init : MS :=
    (sSeq (sFldM [3] "function" (eVar 0) (eVar 1))
    (sFldM [3, 7] "owner" (eVar 0) (eVar 2)))
noncomputable def F_Method_init : FN := mkFn 3 3 b_Method_init
theorem fact_Method_init (T : Txt K w mg cad) : MkFact P w K mg base cad "Method" 1 3 F_Method_init := by
  exact mk_fact (k := 0) (N := N_Method_init) T.f_Method_init sc_Method_init fun fa cdv A outer s H E hr => by
    have hu := hr.units
    exact
      (iss_cons (is_fld T.x_function (ie_var (pv 0)) (ie_var (pv 1)))
      (iss_one (is_fld T.x_owner (ie_var (pv 0)) (ie_var (pv 2)))))
/-! ### Kind.__init__ -/
noncomputable def b_Kind_init : MS :=
    (sSeq (sFldM [1, 2, 4, 6] "name" (eVar 0) (eVar 1))
    (sSeq (sFldM [4, 7] "order" (eVar 0) (eVar 2))
    (sSeq (sFldM [4, 5] "fields" (eVar 0) (eVar 3))
    (sFldM [4] "is_given" (eVar 0) (eVar 4)))))
noncomputable def F_Kind_init : FN := mkFn 5 5 b_Kind_init
theorem fact_Kind_init (T : Txt K w mg cad) : MkFact P w K mg base cad "Kind" 1 4 F_Kind_init := by
  exact mk_fact (k := 0) (N := N_Kind_init) T.f_Kind_init sc_Kind_init fun fa cdv A outer s H E hr => by
    have hu := hr.units
    exact
      (iss_cons (is_fld T.x_name (ie_var (pv 0)) (ie_var (pv 1)))
      (iss_cons (is_fld T.x_order (ie_var (pv 0)) (ie_var (pv 2)))
      (iss_cons (is_fld T.x_fields (ie_var (pv 0)) (ie_var (pv 3)))
      (iss_one (is_fld T.x_is_given (ie_var (pv 0)) (ie_var (pv 4)))))))
/-! ### Made.__init__ -/
noncomputable def b_Made_init : MS :=
    (sSeq (sFldM [5] "kind" (eVar 0) (eVar 1))
    (sFldM [4, 5] "fields" (eVar 0) (eVar 2)))
noncomputable def F_Made_init : FN := mkFn 3 3 b_Made_init
theorem fact_Made_init (T : Txt K w mg cad) : MkFact P w K mg base cad "Made" 1 5 F_Made_init := by
  exact mk_fact (k := 0) (N := N_Made_init) T.f_Made_init sc_Made_init fun fa cdv A outer s H E hr => by
    have hu := hr.units
    exact
      (iss_cons (is_fld T.x_kind (ie_var (pv 0)) (ie_var (pv 1)))
      (iss_one (is_fld T.x_fields (ie_var (pv 0)) (ie_var (pv 2)))))
/-! ### Giver.__init__ -/
noncomputable def b_Giver_init : MS :=
    (sSeq (sFldM [1, 2, 4, 6] "name" (eVar 0) (eVar 1))
    (sSeq (sFldM [6] "frame" (eVar 0) (eVar 2))
    (sSeq (sFldM [6] "end" (eVar 0) (eVar 3))
    (sSeq (sFldM [6] "at" (eVar 0) (eC (.int 0)))
    (sFldM [6] "state" (eVar 0) (eC (.str [110, 101, 119])))))))
noncomputable def F_Giver_init : FN := mkFn 4 4 b_Giver_init
theorem fact_Giver_init (T : Txt K w mg cad) : MkFact P w K mg base cad "Giver" 1 6 F_Giver_init := by
  exact mk_fact (k := 0) (N := N_Giver_init) T.f_Giver_init sc_Giver_init fun fa cdv A outer s H E hr => by
    have hu := hr.units
    exact
      (iss_cons (is_fld T.x_name (ie_var (pv 0)) (ie_var (pv 1)))
      (iss_cons (is_fld T.x_frame (ie_var (pv 0)) (ie_var (pv 2)))
      (iss_cons (is_fld T.x_end (ie_var (pv 0)) (ie_var (pv 3)))
      (iss_cons (is_fld T.x_at (ie_var (pv 0)) ie_int)
      (iss_one (is_fld T.x_state (ie_var (pv 0)) (ie_str (by decide +kernel))))))))
/-! ### View.__init__ -/
noncomputable def b_View_init : MS :=
    (sSeq (sFldM [4, 7] "order" (eVar 0) (eVar 1))
    (sFldM [3, 7] "owner" (eVar 0) (eVar 2)))
noncomputable def F_View_init : FN := mkFn 3 3 b_View_init
theorem fact_View_init (T : Txt K w mg cad) : MkFact P w K mg base cad "View" 1 7 F_View_init := by
  exact mk_fact (k := 0) (N := N_View_init) T.f_View_init sc_View_init fun fa cdv A outer s H E hr => by
    have hu := hr.units
    exact
      (iss_cons (is_fld T.x_order (ie_var (pv 0)) (ie_var (pv 1)))
      (iss_one (is_fld T.x_owner (ie_var (pv 0)) (ie_var (pv 2)))))
/-! ### put_record -/
noncomputable def b_put_record : MS :=
    (sSeq (sExpr (eBM isL appM (eUn (fldM [8] "things") (eVar 0)) (aCons (eVar 1) aNil)))
    (sRet (eTup (aCons (eC (.str [116, 104, 105, 110, 103])) (aCons (eBin opSub (eCall (o1 lenO) (aCons (eUn (fldM [8] "things") (eVar 0)) aNil)) (eC (.int 1))) aNil)))))
noncomputable def F_put_record : FN := mkFn 2 2 b_put_record
theorem fact_put_record (T : Txt K w mg cad) : FnFact P w K mg base cad "put_record" 1 [] F_put_record := by
  exact fn_fact (k := 0) (N := N_put_record) T.f_put_record sc_put_record fun fa cdv A outer s H E hr => by
    have hu := hr.units
    exact
      (iss_cons (is_expr (ie_append (ie_fld T.x_things (ie_var (pv 0))) (ia_cons (ie_var (pv 1)) ia_nil)))
      (iss_one (is_ret (ie_tup (ia_cons (ie_str (by decide +kernel)) (ia_cons (ie_sub (ie_len rfl T.b_len (ia_cons (ie_fld T.x_things (ie_var (pv 0))) ia_nil)) ie_int) ia_nil))))))
/-! ### record_of -/
noncomputable def b_record_of : MS :=
    (sSeq (sIf (tOf (eBin kNe (eBin kIx (eVar 1) (eC (.int 0))) (eC (.str [116, 104, 105, 110, 103])))) (sRet (eC .non)) sNext)
    (sRet (eBin kIx (eUn (fldM [8] "things") (eVar 0)) (eBin kIx (eVar 1) (eC (.int 1))))))
noncomputable def F_record_of : FN := mkFn 2 2 b_record_of
theorem fact_record_of (T : Txt K w mg cad) : FnFact P w K mg base cad "record_of" 1 [] F_record_of := by
  exact fn_fact (k := 0) (N := N_record_of) T.f_record_of sc_record_of fun fa cdv A outer s H E hr => by
    have hu := hr.units
    exact
      (iss_cons (is_if (it_cmp (cm_ne hu) (ie_ix hu (ie_var (pv 1)) ie_int (fun _ _ => rfl)) (ie_str (by decide +kernel)) (nomark _) bl_ne) (iss_one (is_ret ie_non)) iss_nil)
      (iss_one (is_ret (ie_ix hu (ie_fld T.x_things (ie_var (pv 0))) (ie_ix hu (ie_var (pv 1)) ie_int (fun _ _ => rfl)) (fun _ _ => rfl)))))
/-! ### World.__init__ -/
noncomputable def uF_World_init_1 : MS :=
    (sPut (eUn (fldM [8] "given_things") (eVar 0)) (eVar 2) (eCall F_put_record (aCons (eVar 0) (aCons (eMake 2 F_Given_init (aCons (eVar 2) aNil)) aNil))))
noncomputable def uF_World_init_2 : MS :=
    (sSeq (sSet 4 (eTup aNil))
    (sSeq (sIf (tOf (eBin kNe (eVar 3) (eC (.str [])))) (sSet 4 (eBin opAdd (eTup (aCons (eBin kIx (eUn (fldM [8] "given_things") (eVar 0)) (eVar 3)) aNil)) (eUn (fldM [4, 7] "order") (eCall F_record_of (aCons (eVar 0) (aCons (eBin kIx (eUn (fldM [8] "given_things") (eVar 0)) (eVar 3)) aNil)))))) sNext)
    (sPut (eUn (fldM [8] "given_things") (eVar 0)) (eVar 2) (eCall F_put_record (aCons (eVar 0) (aCons (eMake 4 F_Kind_init (aCons (eVar 2) (aCons (eVar 4) (aCons eDic0 (aCons (eC (.bl true)) aNil))))) aNil))))))
noncomputable def b_World_init : MS :=
    (sSeq (sFldM [8] "lines" (eVar 0) (eLst aNil))
    (sSeq (sFldM [8] "left" (eVar 0) (eCall listF (aCons (eVar 1) aNil)))
    (sSeq (sFldM [8] "things" (eVar 0) (eLst aNil))
    (sSeq (sFldM [8] "given_things" (eVar 0) eDic0)
    (sSeq (sFor (iV (eC (.tup [.tup [.str [84, 104, 105, 110, 103], .str []], .tup [.str [70, 97, 117, 108, 116], .str [84, 104, 105, 110, 103]], .tup [.str [78, 97, 109, 101, 70, 97, 117, 108, 116], .str [70, 97, 117, 108, 116]], .tup [.str [75, 105, 110, 100, 70, 97, 117, 108, 116], .str [70, 97, 117, 108, 116]], .tup [.str [78, 111, 117, 103, 104, 116, 70, 97, 117, 108, 116], .str [70, 97, 117, 108, 116]], .tup [.str [71, 114, 101, 97, 116, 70, 97, 117, 108, 116], .str [70, 97, 117, 108, 116]], .tup [.str [70, 105, 101, 108, 100, 70, 97, 117, 108, 116], .str [70, 97, 117, 108, 116]], .tup [.str [79, 114, 100, 101, 114, 70, 97, 117, 108, 116], .str [70, 97, 117, 108, 116]], .tup [.str [69, 110, 100, 70, 97, 117, 108, 116], .str [70, 97, 117, 108, 116]], .tup [.str [83, 104, 117, 116, 70, 97, 117, 108, 116], .str [70, 97, 117, 108, 116]], .tup [.str [68, 101, 101, 112, 70, 97, 117, 108, 116], .str [70, 97, 117, 108, 116]], .tup [.str [85, 110, 98, 111, 117, 110, 100, 70, 97, 117, 108, 116], .str [78, 97, 109, 101, 70, 97, 117, 108, 116]]]))) (mTup 2 (mCons (mName 2) (mCons (mName 3) mNil))) uF_World_init_2)
    (sFor (iV (eC (.tup [.str [115, 97, 121], .str [116, 97, 107, 101], .str [105, 115, 97], .str [101, 108, 100, 101, 114], .str [99, 111, 117, 110, 116], .str [103, 111], .str [116, 104, 114, 111, 119], .str [115, 104, 117, 116]]))) (mName 2) uF_World_init_1))))))
noncomputable def F_World_init : FN := mkFn 5 2 b_World_init
theorem fact_World_init (T : Txt K w mg cad) : MkFact P w K mg base cad "World" 3 8 F_World_init := by
  exact mk_fact (k := 2) (N := N_World_init) T.f_World_init sc_World_init fun fa cdv A outer s H E hr => by
    have hu := hr.units
    exact
      (iss_cons (is_fld T.x_lines (ie_var (pv 0)) (ie_lst ia_nil))
      (iss_cons (is_fld T.x_left (ie_var (pv 0)) (ie_toList rfl T.b_list (ia_cons (ie_var (pv 1)) ia_nil)))
      (iss_cons (is_fld T.x_things (ie_var (pv 0)) (ie_lst ia_nil))
      (iss_cons (is_fld T.x_given_things (ie_var (pv 0)) ie_dic0)
      (iss_cons (is_for PassesOwn.never rfl (ii_v (ie_gtup T.c_GIVEN_CLASSES rfl)) (ig_tup (n := 2) rfl (igs_cons (ig_name (i := 2) sc_World_init.nd rfl (by first | exact Or.inl rfl | exact Or.inr rfl)) (igs_cons (ig_name (i := 3) sc_World_init.nd rfl (by first | exact Or.inl rfl | exact Or.inr rfl)) igs_nil))) (iss_cons (is_set (i := 4) sc_World_init.nd rfl (by first | exact Or.inl rfl | exact Or.inr rfl) (ie_tup ia_nil))
      (iss_cons (is_if (it_cmp (cm_ne hu) (ie_var (pv 3)) (ie_str (by decide +kernel)) (nomark _) bl_ne) (iss_one (is_set (i := 4) sc_World_init.nd rfl (by first | exact Or.inl rfl | exact Or.inr rfl) (ie_add (ie_tup (ia_cons (ie_ix hu (ie_fld T.x_given_things (ie_var (pv 0))) (ie_var (pv 3)) (fun _ _ => rfl)) ia_nil)) (ie_fld T.x_order (ie_call (fact_record_of T) (hr.mono (by decide)) rfl (ia_cons (ie_var (pv 0)) (ia_cons (ie_ix hu (ie_fld T.x_given_things (ie_var (pv 0))) (ie_var (pv 3)) (fun _ _ => rfl)) ia_nil))))))) iss_nil)
      (iss_one (is_put hu (ie_fld T.x_given_things (ie_var (pv 0))) (ie_var (pv 2)) (ie_call (fact_put_record T) (hr.mono (by decide)) rfl (ia_cons (ie_var (pv 0)) (ia_cons (ie_make (fact_Kind_init T) (hr.mono (by decide)) rfl (ia_cons (ie_var (pv 2)) (ia_cons (ie_var (pv 4)) (ia_cons ie_dic0 (ia_cons ie_bl ia_nil))))) ia_nil))))))))
      (iss_one (is_for PassesOwn.never rfl (ii_v (ie_gtup T.c_GIVEN_FUNCTIONS rfl)) (ig_name (i := 2) sc_World_init.nd rfl (by first | exact Or.inl rfl | exact Or.inr rfl)) (iss_one (is_put hu (ie_fld T.x_given_things (ie_var (pv 0))) (ie_var (pv 2)) (ie_call (fact_put_record T) (hr.mono (by decide)) rfl (ia_cons (ie_var (pv 0)) (ia_cons (ie_make (fact_Given_init T) (hr.mono (by decide)) rfl (ia_cons (ie_var (pv 2)) ia_nil)) ia_nil))))))))))))
/-! ### known -/
noncomputable def b_known : MS :=
    (sRet (eGet1 (eUn (fldM [8] "given_things") (eVar 0)) (eVar 1)))
noncomputable def F_known : FN := mkFn 2 2 b_known
theorem fact_known (T : Txt K w mg cad) : FnFact P w K mg base cad "known" 1 [] F_known := by
  exact fn_fact (k := 0) (N := N_known) T.f_known sc_known fun fa cdv A outer s H E hr => by
    have hu := hr.units
    exact
      (iss_one (is_ret (ie_get1 hu (ie_fld T.x_given_things (ie_var (pv 0))) (ie_var (pv 1)) ⟨rfl, rfl, rfl, rfl⟩)))
/-! ### giver -/
noncomputable def b_giver : MS :=
    (sRet (eCall F_put_record (aCons (eVar 0) (aCons (eMake 6 F_Giver_init (aCons (eVar 1) (aCons (eVar 2) (aCons (eC (.int 0)) aNil)))) aNil))))
noncomputable def F_giver : FN := mkFn 3 3 b_giver
theorem fact_giver (T : Txt K w mg cad) : FnFact P w K mg base cad "giver" 3 [] F_giver := by
  exact fn_fact (k := 2) (N := N_giver) T.f_giver sc_giver fun fa cdv A outer s H E hr => by
    have hu := hr.units
    exact
      (iss_one (is_ret (ie_call (fact_put_record T) (hr.mono (by decide)) rfl (ia_cons (ie_var (pv 0)) (ia_cons (ie_make (fact_Giver_init T) (hr.mono (by decide)) rfl (ia_cons (ie_var (pv 1)) (ia_cons (ie_var (pv 2)) (ia_cons ie_int ia_nil)))) ia_nil)))))
/-! ### is_giver -/
noncomputable def b_is_giver : MS :=
    (sRet (eUn (isCM [6] 9) (eCall F_record_of (aCons (eVar 0) (aCons (eVar 1) aNil)))))
noncomputable def F_is_giver : FN := mkFn 2 2 b_is_giver
theorem fact_is_giver (T : Txt K w mg cad) : FnFact P w K mg base cad "is_giver" 2 [] F_is_giver := by
  exact fn_fact (k := 1) (N := N_is_giver) T.f_is_giver sc_is_giver fun fa cdv A outer s H E hr => by
    have hu := hr.units
    exact
      (iss_one (is_ret (ie_isC (n := 6) T.i_Giver rfl T.b_isinstance (ie_call (fact_record_of T) (hr.mono (by decide)) rfl (ia_cons (ie_var (pv 0)) (ia_cons (ie_var (pv 1)) ia_nil))) rfl T.g_Giver)))
/-! ### frame_of -/
noncomputable def b_frame_of : MS :=
    (sRet (eUn (fldM [6] "frame") (eCall F_record_of (aCons (eVar 0) (aCons (eVar 1) aNil)))))
noncomputable def F_frame_of : FN := mkFn 2 2 b_frame_of
theorem fact_frame_of (T : Txt K w mg cad) : FnFact P w K mg base cad "frame_of" 2 [] F_frame_of := by
  exact fn_fact (k := 1) (N := N_frame_of) T.f_frame_of sc_frame_of fun fa cdv A outer s H E hr => by
    have hu := hr.units
    exact
      (iss_one (is_ret (ie_fld T.x_frame (ie_call (fact_record_of T) (hr.mono (by decide)) rfl (ia_cons (ie_var (pv 0)) (ia_cons (ie_var (pv 1)) ia_nil))))))
/-! ### state_of -/
noncomputable def b_state_of : MS :=
    (sRet (eUn (fldM [6] "state") (eCall F_record_of (aCons (eVar 0) (aCons (eVar 1) aNil)))))
noncomputable def F_state_of : FN := mkFn 2 2 b_state_of
theorem fact_state_of (T : Txt K w mg cad) : FnFact P w K mg base cad "state_of" 2 [] F_state_of := by
  exact fn_fact (k := 1) (N := N_state_of) T.f_state_of sc_state_of fun fa cdv A outer s H E hr => by
    have hu := hr.units
    exact
      (iss_one (is_ret (ie_fld T.x_state (ie_call (fact_record_of T) (hr.mono (by decide)) rfl (ia_cons (ie_var (pv 0)) (ia_cons (ie_var (pv 1)) ia_nil))))))
/-! ### set_state -/
noncomputable def b_set_state : MS :=
    (sSeq (sSet 3 (eCall F_record_of (aCons (eVar 0) (aCons (eVar 1) aNil))))
    (sFldM [6] "state" (eVar 3) (eVar 2)))
noncomputable def F_set_state : FN := mkFn 4 3 b_set_state
theorem fact_set_state (T : Txt K w mg cad) : FnFact P w K mg base cad "set_state" 2 [] F_set_state := by
  exact fn_fact (k := 1) (N := N_set_state) T.f_set_state sc_set_state fun fa cdv A outer s H E hr => by
    have hu := hr.units
    exact
      (iss_cons (is_set (i := 3) sc_set_state.nd rfl (by first | exact Or.inl rfl | exact Or.inr rfl) (ie_call (fact_record_of T) (hr.mono (by decide)) rfl (ia_cons (ie_var (pv 0)) (ia_cons (ie_var (pv 1)) ia_nil))))
      (iss_one (is_fld T.x_state (ie_var (pv 3)) (ie_var (pv 2)))))
/-! ### is_under -/
noncomputable def b_is_under : MS :=
    (sRet (eOr (eBin kEq (eVar 1) (eVar 2)) (eBin (kIn false) (eVar 2) (eUn (fldM [4, 7] "order") (eCall F_record_of (aCons (eVar 0) (aCons (eVar 1) aNil)))))))
noncomputable def F_is_under : FN := mkFn 3 3 b_is_under
theorem fact_is_under (T : Txt K w mg cad) : FnFact P w K mg base cad "is_under" 2 [] F_is_under := by
  exact fn_fact (k := 1) (N := N_is_under) T.f_is_under sc_is_under fun fa cdv A outer s H E hr => by
    have hu := hr.units
    exact
      (iss_one (is_ret (ie_orV (ie_cmp (cm_eq hu) (ie_var (pv 1)) (ie_var (pv 2)) (nomark _)) (ie_one (ie_cmp (cm_in hu) (ie_var (pv 2)) (ie_fld T.x_order (ie_call (fact_record_of T) (hr.mono (by decide)) rfl (ia_cons (ie_var (pv 0)) (ia_cons (ie_var (pv 1)) ia_nil)))) (by rfl))))))
/-! ### is_fault_class -/
noncomputable def b_is_fault_class : MS :=
    (sRet (eAnd (eUn (isCM [4] 9) (eCall F_record_of (aCons (eVar 0) (aCons (eVar 1) aNil)))) (eCall F_is_under (aCons (eVar 0) (aCons (eVar 1) (aCons (eCall F_known (aCons (eVar 0) (aCons (eC (.str [70, 97, 117, 108, 116])) aNil))) aNil))))))
noncomputable def F_is_fault_class : FN := mkFn 2 2 b_is_fault_class
theorem fact_is_fault_class (T : Txt K w mg cad) : FnFact P w K mg base cad "is_fault_class" 3 [] F_is_fault_class := by
  exact fn_fact (k := 2) (N := N_is_fault_class) T.f_is_fault_class sc_is_fault_class fun fa cdv A outer s H E hr => by
    have hu := hr.units
    exact
      (iss_one (is_ret (ie_andV (ie_isC (n := 4) T.i_Kind rfl T.b_isinstance (ie_call (fact_record_of T) (hr.mono (by decide)) rfl (ia_cons (ie_var (pv 0)) (ia_cons (ie_var (pv 1)) ia_nil))) rfl T.g_Kind) (ie_one (ie_call (fact_is_under T) (hr.mono (by decide)) rfl (ia_cons (ie_var (pv 0)) (ia_cons (ie_var (pv 1)) (ia_cons (ie_call (fact_known T) (hr.mono (by decide)) rfl (ia_cons (ie_var (pv 0)) (ia_cons (ie_str (by decide +kernel)) ia_nil))) ia_nil))))))))
/-! ### is_fault -/
noncomputable def b_is_fault : MS :=
    (sSeq (sSet 2 (eCall F_record_of (aCons (eVar 0) (aCons (eVar 1) aNil))))
    (sRet (eAnd (eUn (isCM [5] 9) (eVar 2)) (eCall F_is_fault_class (aCons (eVar 0) (aCons (eUn (fldM [5] "kind") (eVar 2)) aNil))))))
noncomputable def F_is_fault : FN := mkFn 3 2 b_is_fault
theorem fact_is_fault (T : Txt K w mg cad) : FnFact P w K mg base cad "is_fault" 4 [] F_is_fault := by
  exact fn_fact (k := 3) (N := N_is_fault) T.f_is_fault sc_is_fault fun fa cdv A outer s H E hr => by
    have hu := hr.units
    exact
      (iss_cons (is_set (i := 2) sc_is_fault.nd rfl (by first | exact Or.inl rfl | exact Or.inr rfl) (ie_call (fact_record_of T) (hr.mono (by decide)) rfl (ia_cons (ie_var (pv 0)) (ia_cons (ie_var (pv 1)) ia_nil))))
      (iss_one (is_ret (ie_andV (ie_isC (n := 5) T.i_Made rfl T.b_isinstance (ie_var (pv 2)) rfl T.g_Made) (ie_one (ie_call (fact_is_fault_class T) (hr.mono (by decide)) rfl (ia_cons (ie_var (pv 0)) (ia_cons (ie_fld T.x_kind (ie_var (pv 2))) ia_nil))))))))
/-! ### new_object -/
noncomputable def b_new_object : MS :=
    (sSeq (sSet 2 eDic0)
    (sSeq (sIf (tOf (eCall F_is_fault_class (aCons (eVar 0) (aCons (eVar 1) aNil)))) (sSet 2 (eDisp (psCons (eC (.str [119, 111, 114, 100])) (eC (.tup [.str [110, 111, 110, 101]])) (psCons (eC (.str [99, 97, 117, 115, 101])) (eC (.tup [.str [110, 111, 110, 101]])) (psCons (eC (.str [99, 111, 110, 116, 101, 120, 116])) (eC (.tup [.str [110, 111, 110, 101]])) psNil))))) sNext)
    (sRet (eCall F_put_record (aCons (eVar 0) (aCons (eMake 5 F_Made_init (aCons (eVar 1) (aCons (eVar 2) aNil))) aNil))))))
noncomputable def F_new_object : FN := mkFn 3 2 b_new_object
theorem fact_new_object (T : Txt K w mg cad) : FnFact P w K mg base cad "new_object" 4 [] F_new_object := by
  exact fn_fact (k := 3) (N := N_new_object) T.f_new_object sc_new_object fun fa cdv A outer s H E hr => by
    have hu := hr.units
    exact
      (iss_cons (is_set (i := 2) sc_new_object.nd rfl (by first | exact Or.inl rfl | exact Or.inr rfl) ie_dic0)
      (iss_cons (is_if (it_of (ie_call (fact_is_fault_class T) (hr.mono (by decide)) rfl (ia_cons (ie_var (pv 0)) (ia_cons (ie_var (pv 1)) ia_nil)))) (iss_one (is_set (i := 2) sc_new_object.nd rfl (by first | exact Or.inl rfl | exact Or.inr rfl) (ie_disp (ips_cons (ie_str (by decide +kernel)) (ie_gtup T.c_NONE rfl) (ips_cons (ie_str (by decide +kernel)) (ie_gtup T.c_NONE rfl) (ips_cons (ie_str (by decide +kernel)) (ie_gtup T.c_NONE rfl) ips_nil))) rfl rfl (by simp) (by decide)))) iss_nil)
      (iss_one (is_ret (ie_call (fact_put_record T) (hr.mono (by decide)) rfl (ia_cons (ie_var (pv 0)) (ia_cons (ie_make (fact_Made_init T) (hr.mono (by decide)) rfl (ia_cons (ie_var (pv 1)) (ia_cons (ie_var (pv 2)) ia_nil))) ia_nil)))))))
/-! ### made -/
noncomputable def b_made : MS :=
    (sSeq (sSet 3 (eCall F_new_object (aCons (eVar 0) (aCons (eCall F_known (aCons (eVar 0) (aCons (eVar 1) aNil))) aNil))))
    (sSeq (sIf (tOf (eBin kIsNot (eVar 2) (eC .non))) (sPut (eUn (fldM [4, 5] "fields") (eCall F_record_of (aCons (eVar 0) (aCons (eVar 3) aNil)))) (eC (.str [119, 111, 114, 100])) (eVar 2)) sNext)
    (sRet (eVar 3))))
noncomputable def F_made : FN := mkFn 4 3 b_made
theorem fact_made_1 (T : Txt K w mg cad) : FnFact P w K mg base cad "made" 5 [(.non : D)] F_made := by
  exact fn_factD (k := 4) (N := N_made) T.f_made_1 sc_made fun fa cdv A outer s H E hr => by
    have hu := hr.units
    exact
      (iss_cons (is_set (i := 3) sc_made.nd rfl (by first | exact Or.inl rfl | exact Or.inr rfl) (ie_call (fact_new_object T) (hr.mono (by decide)) rfl (ia_cons (ie_var (pv 0)) (ia_cons (ie_call (fact_known T) (hr.mono (by decide)) rfl (ia_cons (ie_var (pv 0)) (ia_cons (ie_var (pv 1)) ia_nil))) ia_nil))))
      (iss_cons (is_if (it_cmp cm_isnot (ie_var (pv 2)) ie_non (nomark _) bl_isnot) (iss_one (is_put hu (ie_fld T.x_fields (ie_call (fact_record_of T) (hr.mono (by decide)) rfl (ia_cons (ie_var (pv 0)) (ia_cons (ie_var (pv 3)) ia_nil)))) (ie_str (by decide +kernel)) (ie_var (pv 2)))) iss_nil)
      (iss_one (is_ret (ie_var (pv 3))))))
/-! ### found_in -/
noncomputable def uF_found_in_1 : MS :=
    (sSeq (sSet 4 (eUn (fldM [4, 5] "fields") (eCall F_record_of (aCons (eVar 0) (aCons (eVar 3) aNil)))))
    (sIf (tOf (eBin (kIn false) (eVar 2) (eVar 4))) (sRet (eLst (aCons (eBin kIx (eVar 4) (eVar 2)) aNil))) sNext))
noncomputable def b_found_in : MS :=
    (sSeq (sFor (iV (eVar 1)) (mName 3) uF_found_in_1)
    (sRet (eLst aNil)))
noncomputable def F_found_in : FN := mkFn 5 3 b_found_in
theorem fact_found_in (T : Txt K w mg cad) : FnFact P w K mg base cad "found_in" 2 [] F_found_in := by
  exact fn_fact (k := 1) (N := N_found_in) T.f_found_in sc_found_in fun fa cdv A outer s H E hr => by
    have hu := hr.units
    exact
      (iss_cons (is_for PassesOwn.never rfl (ii_v (ie_var (pv 1))) (ig_name (i := 3) sc_found_in.nd rfl (by first | exact Or.inl rfl | exact Or.inr rfl)) (iss_cons (is_set (i := 4) sc_found_in.nd rfl (by first | exact Or.inl rfl | exact Or.inr rfl) (ie_fld T.x_fields (ie_call (fact_record_of T) (hr.mono (by decide)) rfl (ia_cons (ie_var (pv 0)) (ia_cons (ie_var (pv 3)) ia_nil)))))
      (iss_one (is_if (it_cmp (cm_in hu) (ie_var (pv 2)) (ie_var (pv 4)) (by rfl) bl_in) (iss_one (is_ret (ie_lst (ia_cons (ie_ix hu (ie_var (pv 4)) (ie_var (pv 2)) (fun _ _ => rfl)) ia_nil)))) iss_nil))))
      (iss_one (is_ret (ie_lst ia_nil))))
/-! ### by_way_of -/
noncomputable def b_by_way_of : MS :=
    (sSeq (sIf (tOf (eBin kEq (eVar 1) (eLst aNil))) (sRet (eC (.tup [.str [102, 97, 117, 108, 116], .str [70, 105, 101, 108, 100, 70, 97, 117, 108, 116]]))) sNext)
    (sSeq (sIf (tOf (eUn (isCM [1] 9) (eCall F_record_of (aCons (eVar 0) (aCons (eBin kIx (eVar 1) (eC (.int 0))) aNil))))) (sRet (eTup (aCons (eC (.str [118, 97, 108, 117, 101])) (aCons (eCall F_put_record (aCons (eVar 0) (aCons (eMake 3 F_Method_init (aCons (eBin kIx (eVar 1) (eC (.int 0))) (aCons (eVar 2) aNil))) aNil))) aNil)))) sNext)
    (sRet (eTup (aCons (eC (.str [118, 97, 108, 117, 101])) (aCons (eBin kIx (eVar 1) (eC (.int 0))) aNil))))))
noncomputable def F_by_way_of : FN := mkFn 3 3 b_by_way_of
theorem fact_by_way_of (T : Txt K w mg cad) : FnFact P w K mg base cad "by_way_of" 3 [] F_by_way_of := by
  exact fn_fact (k := 2) (N := N_by_way_of) T.f_by_way_of sc_by_way_of fun fa cdv A outer s H E hr => by
    have hu := hr.units
    exact
      (iss_cons (is_if (it_cmp (cm_eq hu) (ie_var (pv 1)) (ie_lst ia_nil) (nomark _) bl_eq) (iss_one (is_ret (ie_gtup T.c_FAULT rfl))) iss_nil)
      (iss_cons (is_if (it_of (ie_isC (n := 1) T.i_Function rfl T.b_isinstance (ie_call (fact_record_of T) (hr.mono (by decide)) rfl (ia_cons (ie_var (pv 0)) (ia_cons (ie_ix hu (ie_var (pv 1)) ie_int (fun _ _ => rfl)) ia_nil))) rfl T.g_Function)) (iss_one (is_ret (ie_tup (ia_cons (ie_str (by decide +kernel)) (ia_cons (ie_call (fact_put_record T) (hr.mono (by decide)) rfl (ia_cons (ie_var (pv 0)) (ia_cons (ie_make (fact_Method_init T) (hr.mono (by decide)) rfl (ia_cons (ie_ix hu (ie_var (pv 1)) ie_int (fun _ _ => rfl)) (ia_cons (ie_var (pv 2)) ia_nil))) ia_nil))) ia_nil))))) iss_nil)
      (iss_one (is_ret (ie_tup (ia_cons (ie_str (by decide +kernel)) (ia_cons (ie_ix hu (ie_var (pv 1)) ie_int (fun _ _ => rfl)) ia_nil)))))))
/-! ### field_of -/
noncomputable def b_field_of : MS :=
    (sSeq (sSet 3 (eCall F_record_of (aCons (eVar 0) (aCons (eVar 1) aNil))))
    (sSeq (sIf (tOf (eUn (isCM [5] 9) (eVar 3))) (sSeq (sIf (tOf (eBin (kIn false) (eVar 2) (eUn (fldM [4, 5] "fields") (eVar 3)))) (sRet (eTup (aCons (eC (.str [118, 97, 108, 117, 101])) (aCons (eBin kIx (eUn (fldM [4, 5] "fields") (eVar 3)) (eVar 2)) aNil)))) sNext)
    (sSeq (sSet 4 (eBin opAdd (eTup (aCons (eUn (fldM [5] "kind") (eVar 3)) aNil)) (eUn (fldM [4, 7] "order") (eCall F_record_of (aCons (eVar 0) (aCons (eUn (fldM [5] "kind") (eVar 3)) aNil))))))
    (sRet (eCall F_by_way_of (aCons (eVar 0) (aCons (eCall F_found_in (aCons (eVar 0) (aCons (eVar 4) (aCons (eVar 2) aNil)))) (aCons (eVar 1) aNil))))))) sNext)
    (sSeq (sIf (tOf (eUn (isCM [7] 9) (eVar 3))) (sRet (eCall F_by_way_of (aCons (eVar 0) (aCons (eCall F_found_in (aCons (eVar 0) (aCons (eUn (fldM [4, 7] "order") (eVar 3)) (aCons (eVar 2) aNil)))) (aCons (eUn (fldM [3, 7] "owner") (eVar 3)) aNil))))) sNext)
    (sSeq (sIf (tNot (tOf (eUn (isCM [4] 9) (eVar 3)))) (sRet (eC (.tup [.str [102, 97, 117, 108, 116], .str [70, 105, 101, 108, 100, 70, 97, 117, 108, 116]]))) sNext)
    (sSeq (sSet 5 (eCall F_found_in (aCons (eVar 0) (aCons (eBin opAdd (eTup (aCons (eVar 1) aNil)) (eUn (fldM [4, 7] "order") (eVar 3))) (aCons (eVar 2) aNil)))))
    (sSeq (sIf (tOf (eBin kEq (eVar 5) (eLst aNil))) (sRet (eC (.tup [.str [102, 97, 117, 108, 116], .str [70, 105, 101, 108, 100, 70, 97, 117, 108, 116]]))) sNext)
    (sRet (eTup (aCons (eC (.str [118, 97, 108, 117, 101])) (aCons (eBin kIx (eVar 5) (eC (.int 0))) aNil))))))))))
noncomputable def F_field_of : FN := mkFn 6 3 b_field_of
theorem fact_field_of (T : Txt K w mg cad) : FnFact P w K mg base cad "field_of" 4 [] F_field_of := by
  exact fn_fact (k := 3) (N := N_field_of) T.f_field_of sc_field_of fun fa cdv A outer s H E hr => by
    have hu := hr.units
    exact
      (iss_cons (is_set (i := 3) sc_field_of.nd rfl (by first | exact Or.inl rfl | exact Or.inr rfl) (ie_call (fact_record_of T) (hr.mono (by decide)) rfl (ia_cons (ie_var (pv 0)) (ia_cons (ie_var (pv 1)) ia_nil))))
      (iss_cons (is_if (it_of (ie_isC (n := 5) T.i_Made rfl T.b_isinstance (ie_var (pv 3)) rfl T.g_Made)) (iss_cons (is_if (it_cmp (cm_in hu) (ie_var (pv 2)) (ie_fld T.x_fields (ie_var (pv 3))) (by rfl) bl_in) (iss_one (is_ret (ie_tup (ia_cons (ie_str (by decide +kernel)) (ia_cons (ie_ix hu (ie_fld T.x_fields (ie_var (pv 3))) (ie_var (pv 2)) (fun _ _ => rfl)) ia_nil))))) iss_nil)
      (iss_cons (is_set (i := 4) sc_field_of.nd rfl (by first | exact Or.inl rfl | exact Or.inr rfl) (ie_add (ie_tup (ia_cons (ie_fld T.x_kind (ie_var (pv 3))) ia_nil)) (ie_fld T.x_order (ie_call (fact_record_of T) (hr.mono (by decide)) rfl (ia_cons (ie_var (pv 0)) (ia_cons (ie_fld T.x_kind (ie_var (pv 3))) ia_nil))))))
      (iss_one (is_ret (ie_call (fact_by_way_of T) (hr.mono (by decide)) rfl (ia_cons (ie_var (pv 0)) (ia_cons (ie_call (fact_found_in T) (hr.mono (by decide)) rfl (ia_cons (ie_var (pv 0)) (ia_cons (ie_var (pv 4)) (ia_cons (ie_var (pv 2)) ia_nil)))) (ia_cons (ie_var (pv 1)) ia_nil)))))))) iss_nil)
      (iss_cons (is_if (it_of (ie_isC (n := 7) T.i_View rfl T.b_isinstance (ie_var (pv 3)) rfl T.g_View)) (iss_one (is_ret (ie_call (fact_by_way_of T) (hr.mono (by decide)) rfl (ia_cons (ie_var (pv 0)) (ia_cons (ie_call (fact_found_in T) (hr.mono (by decide)) rfl (ia_cons (ie_var (pv 0)) (ia_cons (ie_fld T.x_order (ie_var (pv 3))) (ia_cons (ie_var (pv 2)) ia_nil)))) (ia_cons (ie_fld T.x_owner (ie_var (pv 3))) ia_nil)))))) iss_nil)
      (iss_cons (is_if (it_not (it_of (ie_isC (n := 4) T.i_Kind rfl T.b_isinstance (ie_var (pv 3)) rfl T.g_Kind))) (iss_one (is_ret (ie_gtup T.c_FAULT rfl))) iss_nil)
      (iss_cons (is_set (i := 5) sc_field_of.nd rfl (by first | exact Or.inl rfl | exact Or.inr rfl) (ie_call (fact_found_in T) (hr.mono (by decide)) rfl (ia_cons (ie_var (pv 0)) (ia_cons (ie_add (ie_tup (ia_cons (ie_var (pv 1)) ia_nil)) (ie_fld T.x_order (ie_var (pv 3)))) (ia_cons (ie_var (pv 2)) ia_nil)))))
      (iss_cons (is_if (it_cmp (cm_eq hu) (ie_var (pv 5)) (ie_lst ia_nil) (nomark _) bl_eq) (iss_one (is_ret (ie_gtup T.c_FAULT rfl))) iss_nil)
      (iss_one (is_ret (ie_tup (ia_cons (ie_str (by decide +kernel)) (ia_cons (ie_ix hu (ie_var (pv 5)) ie_int (fun _ _ => rfl)) ia_nil)))))))))))
/-! ### text_of -/
noncomputable def b_text_of : MS :=
    (sSeq (sIf (tOf (eBin kEq (eBin kIx (eVar 1) (eC (.int 0))) (eC (.str [110, 111, 110, 101])))) (sRet (eC (.str [78, 111, 110, 101]))) sNext)
    (sSeq (sIf (tOf (eBin kEq (eBin kIx (eVar 1) (eC (.int 0))) (eC (.str [116, 104, 105, 110, 103])))) sNo sNext)
    (sRet (eCall (o1 strO) (aCons (eBin kIx (eVar 1) (eC (.int 1))) aNil)))))
noncomputable def F_text_of : FN := mkFn 2 2 b_text_of
theorem fact_text_of (T : Txt K w mg cad) : FnFact P w K mg base cad "text_of" 2 [] F_text_of := by
  exact fn_fact (k := 1) (N := N_text_of) T.f_text_of sc_text_of fun fa cdv A outer s H E hr => by
    have hu := hr.units
    exact
      (iss_cons (is_if (it_cmp (cm_eq hu) (ie_ix hu (ie_var (pv 1)) ie_int (fun _ _ => rfl)) (ie_str (by decide +kernel)) (nomark _) bl_eq) (iss_one (is_ret (ie_str (by decide +kernel)))) iss_nil)
      (iss_cons (is_if (it_cmp (cm_eq hu) (ie_ix hu (ie_var (pv 1)) ie_int (fun _ _ => rfl)) (ie_str (by decide +kernel)) (nomark _) bl_eq) (iss_one is_no) iss_nil)
      (iss_one (is_ret (ie_toStr rfl T.b_str (ia_cons (ie_ix hu (ie_var (pv 1)) ie_int (fun _ _ => rfl)) ia_nil))))))
/-! ### entered -/
noncomputable def b_entered : MS :=
    (sSeq (sSet 3 (eCall F_record_of (aCons (eVar 0) (aCons (eVar 1) aNil))))
    (sSeq (sSet 4 (eBin opSub (eUn (fldM [1] "params") (eVar 3)) (eCall (o1 lenO) (aCons (eVar 2) aNil))))
    (sSeq (sIf (tNot (tOf (eChain kLe kLe (eC (.int 0)) (eVar 4) (eCall (o1 lenO) (aCons (eUn (fldM [1] "defaults") (eVar 3)) aNil))))) (sRet (eC (.tup [.str [102, 97, 117, 108, 116], .str [75, 105, 110, 100, 70, 97, 117, 108, 116]]))) sNext)
    (sRet (eTup (aCons (eC (.str [101, 110, 116, 101, 114])) (aCons (eVar 1) (aCons (eBin opAdd (eCall (o1 tupleO) (aCons (eVar 2) aNil)) (eSl (eUn (fldM [1] "defaults") (eVar 3)) (oSome (eBin opSub (eCall (o1 lenO) (aCons (eUn (fldM [1] "defaults") (eVar 3)) aNil)) (eVar 4))) oNone)) aNil))))))))
noncomputable def F_entered : FN := mkFn 5 3 b_entered
theorem fact_entered (T : Txt K w mg cad) : FnFact P w K mg base cad "entered" 2 [] F_entered := by
  exact fn_fact (k := 1) (N := N_entered) T.f_entered sc_entered fun fa cdv A outer s H E hr => by
    have hu := hr.units
    exact
      (iss_cons (is_set (i := 3) sc_entered.nd rfl (by first | exact Or.inl rfl | exact Or.inr rfl) (ie_call (fact_record_of T) (hr.mono (by decide)) rfl (ia_cons (ie_var (pv 0)) (ia_cons (ie_var (pv 1)) ia_nil))))
      (iss_cons (is_set (i := 4) sc_entered.nd rfl (by first | exact Or.inl rfl | exact Or.inr rfl) (ie_sub (ie_fld T.x_params (ie_var (pv 3))) (ie_len rfl T.b_len (ia_cons (ie_var (pv 2)) ia_nil))))
      (iss_cons (is_if (it_not (it_chain cm_le cm_le ie_int (ie_var (pv 4)) (ie_len rfl T.b_len (ia_cons (ie_fld T.x_defaults (ie_var (pv 3))) ia_nil)) bl_ord)) (iss_one (is_ret (ie_gtup T.c_WRONG rfl))) iss_nil)
      (iss_one (is_ret (ie_tup (ia_cons (ie_str (by decide +kernel)) (ia_cons (ie_var (pv 1)) (ia_cons (ie_add (ie_toTuple rfl T.b_tuple (ia_cons (ie_var (pv 2)) ia_nil)) (ie_sl (ie_fld T.x_defaults (ie_var (pv 3))) (io_some (ie_sub (ie_len rfl T.b_len (ia_cons (ie_fld T.x_defaults (ie_var (pv 3))) ia_nil)) (ie_var (pv 4)))) io_none)) ia_nil)))))))))
/-! ### begun_object -/
noncomputable def b_begun_object : MS :=
    (sSeq (sSet 3 (eCall F_new_object (aCons (eVar 0) (aCons (eVar 1) aNil))))
    (sSeq (sSet 4 (eCall F_field_of (aCons (eVar 0) (aCons (eVar 3) (aCons (eC (.str [115, 116, 97, 114, 116])) aNil)))))
    (sSeq (sIf (tAnd (tOf (eBin kEq (eBin kIx (eVar 4) (eC (.int 0))) (eC (.str [118, 97, 108, 117, 101])))) (tOf (eUn (isCM [3] 9) (eCall F_record_of (aCons (eVar 0) (aCons (eBin kIx (eVar 4) (eC (.int 1))) aNil)))))) (sRet (eTup (aCons (eC (.str [115, 116, 97, 114, 116])) (aCons (eVar 3) (aCons (eBin kIx (eVar 4) (eC (.int 1))) (aCons (eCall (o1 tupleO) (aCons (eVar 2) aNil)) aNil)))))) sNext)
    (sSeq (sIf (tOf (eBin kEq (eBin kIx (eVar 4) (eC (.int 0))) (eC (.str [118, 97, 108, 117, 101])))) (sRet (eC (.tup [.str [102, 97, 117, 108, 116], .str [75, 105, 110, 100, 70, 97, 117, 108, 116]]))) sNext)
    (sSeq (sIf (tOf (eBin kGt (eCall (o1 lenO) (aCons (eVar 2) aNil)) (eCall (o1 intO) (aCons (eCall F_is_fault_class (aCons (eVar 0) (aCons (eVar 1) aNil))) aNil)))) (sRet (eC (.tup [.str [102, 97, 117, 108, 116], .str [75, 105, 110, 100, 70, 97, 117, 108, 116]]))) sNext)
    (sSeq (sIf (tOf (eBin kEq (eCall (o1 lenO) (aCons (eVar 2) aNil)) (eC (.int 1)))) (sPut (eUn (fldM [4, 5] "fields") (eCall F_record_of (aCons (eVar 0) (aCons (eVar 3) aNil)))) (eC (.str [119, 111, 114, 100])) (eBin kIx (eVar 2) (eC (.int 0)))) sNext)
    (sRet (eTup (aCons (eC (.str [118, 97, 108, 117, 101])) (aCons (eVar 3) aNil))))))))))
noncomputable def F_begun_object : FN := mkFn 5 3 b_begun_object
theorem fact_begun_object (T : Txt K w mg cad) : FnFact P w K mg base cad "begun_object" 5 [] F_begun_object := by
  exact fn_fact (k := 4) (N := N_begun_object) T.f_begun_object sc_begun_object fun fa cdv A outer s H E hr => by
    have hu := hr.units
    exact
      (iss_cons (is_set (i := 3) sc_begun_object.nd rfl (by first | exact Or.inl rfl | exact Or.inr rfl) (ie_call (fact_new_object T) (hr.mono (by decide)) rfl (ia_cons (ie_var (pv 0)) (ia_cons (ie_var (pv 1)) ia_nil))))
      (iss_cons (is_set (i := 4) sc_begun_object.nd rfl (by first | exact Or.inl rfl | exact Or.inr rfl) (ie_call (fact_field_of T) (hr.mono (by decide)) rfl (ia_cons (ie_var (pv 0)) (ia_cons (ie_var (pv 3)) (ia_cons (ie_str (by decide +kernel)) ia_nil)))))
      (iss_cons (is_if (it_bool (iw_and (it_cmp (cm_eq hu) (ie_ix hu (ie_var (pv 4)) ie_int (fun _ _ => rfl)) (ie_str (by decide +kernel)) (nomark _) bl_eq) (iw_and1 (it_of (ie_isC (n := 3) T.i_Method rfl T.b_isinstance (ie_call (fact_record_of T) (hr.mono (by decide)) rfl (ia_cons (ie_var (pv 0)) (ia_cons (ie_ix hu (ie_var (pv 4)) ie_int (fun _ _ => rfl)) ia_nil))) rfl T.g_Method))))) (iss_one (is_ret (ie_tup (ia_cons (ie_str (by decide +kernel)) (ia_cons (ie_var (pv 3)) (ia_cons (ie_ix hu (ie_var (pv 4)) ie_int (fun _ _ => rfl)) (ia_cons (ie_toTuple rfl T.b_tuple (ia_cons (ie_var (pv 2)) ia_nil)) ia_nil))))))) iss_nil)
      (iss_cons (is_if (it_cmp (cm_eq hu) (ie_ix hu (ie_var (pv 4)) ie_int (fun _ _ => rfl)) (ie_str (by decide +kernel)) (nomark _) bl_eq) (iss_one (is_ret (ie_gtup T.c_WRONG rfl))) iss_nil)
      (iss_cons (is_if (it_cmp cm_gt (ie_len rfl T.b_len (ia_cons (ie_var (pv 2)) ia_nil)) (ie_toInt rfl T.b_int (ia_cons (ie_call (fact_is_fault_class T) (hr.mono (by decide)) rfl (ia_cons (ie_var (pv 0)) (ia_cons (ie_var (pv 1)) ia_nil))) ia_nil)) (nomark _) bl_ord) (iss_one (is_ret (ie_gtup T.c_WRONG rfl))) iss_nil)
      (iss_cons (is_if (it_cmp (cm_eq hu) (ie_len rfl T.b_len (ia_cons (ie_var (pv 2)) ia_nil)) ie_int (nomark _) bl_eq) (iss_one (is_put hu (ie_fld T.x_fields (ie_call (fact_record_of T) (hr.mono (by decide)) rfl (ia_cons (ie_var (pv 0)) (ia_cons (ie_var (pv 3)) ia_nil)))) (ie_str (by decide +kernel)) (ie_ix hu (ie_var (pv 2)) ie_int (fun _ _ => rfl)))) iss_nil)
      (iss_one (is_ret (ie_tup (ia_cons (ie_str (by decide +kernel)) (ia_cons (ie_var (pv 3)) ia_nil)))))))))))
/-! ### next_input -/
noncomputable def b_next_input : MS :=
    (sSeq (sIf (tOf (eBin kEq (eUn (fldM [8] "left") (eVar 0)) (eLst aNil))) (sRet (eTup (aCons (eC (.str [118, 97, 108, 117, 101])) (aCons (eTup (aCons (eC (.str [110, 117, 109, 98, 101, 114])) (aCons (eC (.int 0)) aNil))) aNil)))) sNext)
    sNo)
noncomputable def F_next_input : FN := mkFn 1 1 b_next_input
theorem fact_next_input (T : Txt K w mg cad) : FnFact P w K mg base cad "next_input" 1 [] F_next_input := by
  exact fn_fact (k := 0) (N := N_next_input) T.f_next_input sc_next_input fun fa cdv A outer s H E hr => by
    have hu := hr.units
    exact
      (iss_cons (is_if (it_cmp (cm_eq hu) (ie_fld T.x_left (ie_var (pv 0))) (ie_lst ia_nil) (nomark _) bl_eq) (iss_one (is_ret (ie_tup (ia_cons (ie_str (by decide +kernel)) (ia_cons (ie_tup (ia_cons (ie_str (by decide +kernel)) (ia_cons ie_int ia_nil))) ia_nil))))) iss_nil)
      (iss_one is_no))
/-! ### is_of -/
noncomputable def b_is_of : MS :=
    (sSeq (sSet 3 (eCall F_record_of (aCons (eVar 0) (aCons (eVar 1) aNil))))
    (sRet (eAnd (eUn (isCM [5] 9) (eVar 3)) (eCall F_is_under (aCons (eVar 0) (aCons (eUn (fldM [5] "kind") (eVar 3)) (aCons (eVar 2) aNil)))))))
noncomputable def F_is_of : FN := mkFn 4 3 b_is_of
theorem fact_is_of (T : Txt K w mg cad) : FnFact P w K mg base cad "is_of" 3 [] F_is_of := by
  exact fn_fact (k := 2) (N := N_is_of) T.f_is_of sc_is_of fun fa cdv A outer s H E hr => by
    have hu := hr.units
    exact
      (iss_cons (is_set (i := 3) sc_is_of.nd rfl (by first | exact Or.inl rfl | exact Or.inr rfl) (ie_call (fact_record_of T) (hr.mono (by decide)) rfl (ia_cons (ie_var (pv 0)) (ia_cons (ie_var (pv 1)) ia_nil))))
      (iss_one (is_ret (ie_andV (ie_isC (n := 5) T.i_Made rfl T.b_isinstance (ie_var (pv 3)) rfl T.g_Made) (ie_one (ie_call (fact_is_under T) (hr.mono (by decide)) rfl (ia_cons (ie_var (pv 0)) (ia_cons (ie_fld T.x_kind (ie_var (pv 3))) (ia_cons (ie_var (pv 2)) ia_nil)))))))))
/-! ### view_made -/
noncomputable def b_view_made : MS :=
    (sSeq (sIf (tOr (tNot (tOf (eUn (isCM [4] 9) (eCall F_record_of (aCons (eVar 0) (aCons (eVar 1) aNil)))))) (tNot (tOf (eCall F_is_of (aCons (eVar 0) (aCons (eVar 2) (aCons (eVar 1) aNil))))))) (sRet (eC (.tup [.str [102, 97, 117, 108, 116], .str [75, 105, 110, 100, 70, 97, 117, 108, 116]]))) sNext)
    (sSeq (sSet 3 (eCall F_record_of (aCons (eVar 0) (aCons (eVar 2) aNil))))
    (sSeq (sSet 4 (eBin opAdd (eTup (aCons (eUn (fldM [5] "kind") (eVar 3)) aNil)) (eUn (fldM [4, 7] "order") (eCall F_record_of (aCons (eVar 0) (aCons (eUn (fldM [5] "kind") (eVar 3)) aNil))))))
    sNo)))
noncomputable def F_view_made : FN := mkFn 5 3 b_view_made
theorem fact_view_made (T : Txt K w mg cad) : FnFact P w K mg base cad "view_made" 4 [] F_view_made := by
  exact fn_fact (k := 3) (N := N_view_made) T.f_view_made sc_view_made fun fa cdv A outer s H E hr => by
    have hu := hr.units
    exact
      (iss_cons (is_if (it_bool (iw_or (it_not (it_of (ie_isC (n := 4) T.i_Kind rfl T.b_isinstance (ie_call (fact_record_of T) (hr.mono (by decide)) rfl (ia_cons (ie_var (pv 0)) (ia_cons (ie_var (pv 1)) ia_nil))) rfl T.g_Kind))) (iw_or1 (it_not (it_of (ie_call (fact_is_of T) (hr.mono (by decide)) rfl (ia_cons (ie_var (pv 0)) (ia_cons (ie_var (pv 2)) (ia_cons (ie_var (pv 1)) ia_nil))))))))) (iss_one (is_ret (ie_gtup T.c_WRONG rfl))) iss_nil)
      (iss_cons (is_set (i := 3) sc_view_made.nd rfl (by first | exact Or.inl rfl | exact Or.inr rfl) (ie_call (fact_record_of T) (hr.mono (by decide)) rfl (ia_cons (ie_var (pv 0)) (ia_cons (ie_var (pv 2)) ia_nil))))
      (iss_cons (is_set (i := 4) sc_view_made.nd rfl (by first | exact Or.inl rfl | exact Or.inr rfl) (ie_add (ie_tup (ia_cons (ie_fld T.x_kind (ie_var (pv 3))) ia_nil)) (ie_fld T.x_order (ie_call (fact_record_of T) (hr.mono (by decide)) rfl (ia_cons (ie_var (pv 0)) (ia_cons (ie_fld T.x_kind (ie_var (pv 3))) ia_nil))))))
      (iss_one is_no))))
/-! ### count_giver -/
noncomputable def b_count_giver : MS :=
    (sSeq (sIf (tOf (eBin kNe (eBin kIx (eVar 1) (eC (.int 0))) (eC (.str [110, 117, 109, 98, 101, 114])))) (sRet (eC (.tup [.str [102, 97, 117, 108, 116], .str [75, 105, 110, 100, 70, 97, 117, 108, 116]]))) sNext)
    (sSeq (sIf (tOf (eBin kGt (eBin kIx (eVar 1) (eC (.int 1))) (eC (.int 10000)))) (sRet (eTup (aCons (eC (.str [102, 97, 117, 108, 116])) (aCons (eC (.str [71, 114, 101, 97, 116, 70, 97, 117, 108, 116])) aNil)))) sNext)
    (sRet (eTup (aCons (eC (.str [118, 97, 108, 117, 101])) (aCons (eCall F_put_record (aCons (eVar 0) (aCons (eMake 6 F_Giver_init (aCons (eC (.str [99, 111, 117, 110, 116])) (aCons (eC .non) (aCons (eBin kIx (eVar 1) (eC (.int 1))) aNil)))) aNil))) aNil))))))
noncomputable def F_count_giver : FN := mkFn 2 2 b_count_giver
theorem fact_count_giver (T : Txt K w mg cad) : FnFact P w K mg base cad "count_giver" 3 [] F_count_giver := by
  obtain ⟨tk_MOST_COUNTED, c_MOST_COUNTED⟩ := T.c_MOST_COUNTED
  exact fn_fact (k := 2) (N := N_count_giver) T.f_count_giver sc_count_giver fun fa cdv A outer s H E hr => by
    have hu := hr.units
    exact
      (iss_cons (is_if (it_cmp (cm_ne hu) (ie_ix hu (ie_var (pv 1)) ie_int (fun _ _ => rfl)) (ie_str (by decide +kernel)) (nomark _) bl_ne) (iss_one (is_ret (ie_gtup T.c_WRONG rfl))) iss_nil)
      (iss_cons (is_if (it_cmp cm_gt (ie_ix hu (ie_var (pv 1)) ie_int (fun _ _ => rfl)) (ie_gint rfl c_MOST_COUNTED) (nomark _) bl_ord) (iss_one (is_ret (ie_tup (ia_cons (ie_str (by decide +kernel)) (ia_cons (ie_str (by decide +kernel)) ia_nil))))) iss_nil)
      (iss_one (is_ret (ie_tup (ia_cons (ie_str (by decide +kernel)) (ia_cons (ie_call (fact_put_record T) (hr.mono (by decide)) rfl (ia_cons (ie_var (pv 0)) (ia_cons (ie_make (fact_Giver_init T) (hr.mono (by decide)) rfl (ia_cons (ie_str (by decide +kernel)) (ia_cons ie_non (ia_cons (ie_ix hu (ie_var (pv 1)) ie_int (fun _ _ => rfl)) ia_nil)))) ia_nil))) ia_nil)))))))
/-! ### gone_on -/
noncomputable def b_gone_on : MS :=
    (sSeq (sSet 3 (eCall F_record_of (aCons (eVar 0) (aCons (eVar 1) aNil))))
    (sSeq (sIf (tOf (eBin kEq (eUn (fldM [6] "state") (eVar 3)) (eC (.str [103, 111, 101, 115])))) (sRet (eC (.tup [.str [102, 97, 117, 108, 116], .str [75, 105, 110, 100, 70, 97, 117, 108, 116]]))) sNext)
    (sSeq (sIf (tOf (eBin kEq (eUn (fldM [6] "state") (eVar 3)) (eC (.str [111, 118, 101, 114])))) (sRet (eC (.tup [.str [102, 97, 117, 108, 116], .str [69, 110, 100, 70, 97, 117, 108, 116]]))) sNext)
    (sSeq (sIf (tAnd (tOf (eBin kEq (eUn (fldM [6] "state") (eVar 3)) (eC (.str [110, 101, 119])))) (tAnd (tOf (eBin kNe (eVar 2) (eC (.tup [.str [110, 111, 110, 101]])))) (tOf (eBin kIsNot (eUn (fldM [6] "frame") (eVar 3)) (eC .non))))) (sRet (eC (.tup [.str [102, 97, 117, 108, 116], .str [75, 105, 110, 100, 70, 97, 117, 108, 116]]))) sNext)
    (sRet (eTup (aCons (eC (.str [103, 111])) (aCons (eVar 1) (aCons (eVar 2) aNil)))))))))
noncomputable def F_gone_on : FN := mkFn 4 3 b_gone_on
theorem fact_gone_on (T : Txt K w mg cad) : FnFact P w K mg base cad "gone_on" 2 [] F_gone_on := by
  exact fn_fact (k := 1) (N := N_gone_on) T.f_gone_on sc_gone_on fun fa cdv A outer s H E hr => by
    have hu := hr.units
    exact
      (iss_cons (is_set (i := 3) sc_gone_on.nd rfl (by first | exact Or.inl rfl | exact Or.inr rfl) (ie_call (fact_record_of T) (hr.mono (by decide)) rfl (ia_cons (ie_var (pv 0)) (ia_cons (ie_var (pv 1)) ia_nil))))
      (iss_cons (is_if (it_cmp (cm_eq hu) (ie_fld T.x_state (ie_var (pv 3))) (ie_str (by decide +kernel)) (nomark _) bl_eq) (iss_one (is_ret (ie_gtup T.c_WRONG rfl))) iss_nil)
      (iss_cons (is_if (it_cmp (cm_eq hu) (ie_fld T.x_state (ie_var (pv 3))) (ie_str (by decide +kernel)) (nomark _) bl_eq) (iss_one (is_ret (ie_gtup T.c_ENDED rfl))) iss_nil)
      (iss_cons (is_if (it_bool (iw_and (it_cmp (cm_eq hu) (ie_fld T.x_state (ie_var (pv 3))) (ie_str (by decide +kernel)) (nomark _) bl_eq) (iw_and (it_cmp (cm_ne hu) (ie_var (pv 2)) (ie_gtup T.c_NONE rfl) (nomark _) bl_ne) (iw_and1 (it_cmp cm_isnot (ie_fld T.x_frame (ie_var (pv 3))) ie_non (nomark _) bl_isnot))))) (iss_one (is_ret (ie_gtup T.c_WRONG rfl))) iss_nil)
      (iss_one (is_ret (ie_tup (ia_cons (ie_str (by decide +kernel)) (ia_cons (ie_var (pv 1)) (ia_cons (ie_var (pv 2)) ia_nil))))))))))
/-! ### thrown -/
noncomputable def b_thrown : MS :=
    (sSeq (sSet 3 (eUn (fldM [6] "state") (eCall F_record_of (aCons (eVar 0) (aCons (eVar 1) aNil)))))
    (sSeq (sIf (tOf (eBin kEq (eVar 3) (eC (.str [103, 111, 101, 115])))) (sRet (eC (.tup [.str [102, 97, 117, 108, 116], .str [75, 105, 110, 100, 70, 97, 117, 108, 116]]))) sNext)
    (sSeq (sIf (tOf (eBin kEq (eVar 3) (eC (.str [111, 118, 101, 114])))) (sRet (eTup (aCons (eC (.str [114, 97, 105, 115, 101])) (aCons (eVar 2) aNil)))) sNext)
    (sRet (eTup (aCons (eC (.str [116, 104, 114, 111, 119])) (aCons (eVar 1) (aCons (eVar 2) aNil))))))))
noncomputable def F_thrown : FN := mkFn 4 3 b_thrown
theorem fact_thrown (T : Txt K w mg cad) : FnFact P w K mg base cad "thrown" 2 [] F_thrown := by
  exact fn_fact (k := 1) (N := N_thrown) T.f_thrown sc_thrown fun fa cdv A outer s H E hr => by
    have hu := hr.units
    exact
      (iss_cons (is_set (i := 3) sc_thrown.nd rfl (by first | exact Or.inl rfl | exact Or.inr rfl) (ie_fld T.x_state (ie_call (fact_record_of T) (hr.mono (by decide)) rfl (ia_cons (ie_var (pv 0)) (ia_cons (ie_var (pv 1)) ia_nil)))))
      (iss_cons (is_if (it_cmp (cm_eq hu) (ie_var (pv 3)) (ie_str (by decide +kernel)) (nomark _) bl_eq) (iss_one (is_ret (ie_gtup T.c_WRONG rfl))) iss_nil)
      (iss_cons (is_if (it_cmp (cm_eq hu) (ie_var (pv 3)) (ie_str (by decide +kernel)) (nomark _) bl_eq) (iss_one (is_ret (ie_tup (ia_cons (ie_str (by decide +kernel)) (ia_cons (ie_var (pv 2)) ia_nil))))) iss_nil)
      (iss_one (is_ret (ie_tup (ia_cons (ie_str (by decide +kernel)) (ia_cons (ie_var (pv 1)) (ia_cons (ie_var (pv 2)) ia_nil)))))))))
/-! ### shut_down -/
noncomputable def b_shut_down : MS :=
    (sSeq (sSet 2 (eCall F_record_of (aCons (eVar 0) (aCons (eVar 1) aNil))))
    (sSeq (sIf (tOf (eBin kEq (eUn (fldM [6] "state") (eVar 2)) (eC (.str [103, 111, 101, 115])))) (sRet (eC (.tup [.str [102, 97, 117, 108, 116], .str [75, 105, 110, 100, 70, 97, 117, 108, 116]]))) sNext)
    (sSeq (sIf (tOf (eBin kEq (eUn (fldM [6] "state") (eVar 2)) (eC (.str [119, 97, 105, 116, 115])))) (sRet (eTup (aCons (eC (.str [115, 104, 117, 116])) (aCons (eVar 1) aNil)))) sNext)
    (sSeq (sFldM [6] "state" (eVar 2) (eC (.str [111, 118, 101, 114])))
    (sRet (eTup (aCons (eC (.str [118, 97, 108, 117, 101])) (aCons (eC (.tup [.str [110, 111, 110, 101]])) aNil))))))))
noncomputable def F_shut_down : FN := mkFn 3 2 b_shut_down
theorem fact_shut_down (T : Txt K w mg cad) : FnFact P w K mg base cad "shut_down" 2 [] F_shut_down := by
  exact fn_fact (k := 1) (N := N_shut_down) T.f_shut_down sc_shut_down fun fa cdv A outer s H E hr => by
    have hu := hr.units
    exact
      (iss_cons (is_set (i := 2) sc_shut_down.nd rfl (by first | exact Or.inl rfl | exact Or.inr rfl) (ie_call (fact_record_of T) (hr.mono (by decide)) rfl (ia_cons (ie_var (pv 0)) (ia_cons (ie_var (pv 1)) ia_nil))))
      (iss_cons (is_if (it_cmp (cm_eq hu) (ie_fld T.x_state (ie_var (pv 2))) (ie_str (by decide +kernel)) (nomark _) bl_eq) (iss_one (is_ret (ie_gtup T.c_WRONG rfl))) iss_nil)
      (iss_cons (is_if (it_cmp (cm_eq hu) (ie_fld T.x_state (ie_var (pv 2))) (ie_str (by decide +kernel)) (nomark _) bl_eq) (iss_one (is_ret (ie_tup (ia_cons (ie_str (by decide +kernel)) (ia_cons (ie_var (pv 1)) ia_nil))))) iss_nil)
      (iss_cons (is_fld T.x_state (ie_var (pv 2)) (ie_str (by decide +kernel)))
      (iss_one (is_ret (ie_tup (ia_cons (ie_str (by decide +kernel)) (ia_cons (ie_gtup T.c_NONE rfl) ia_nil)))))))))
/-! ### called_giver -/
noncomputable def b_called_giver : MS :=
    (sSeq (sIf (tNot (tOf (eCall F_is_giver (aCons (eVar 0) (aCons (eBin kIx (eVar 2) (eC (.int 0))) aNil))))) (sRet (eC (.tup [.str [102, 97, 117, 108, 116], .str [75, 105, 110, 100, 70, 97, 117, 108, 116]]))) sNext)
    (sSeq (sIf (tOf (eBin kEq (eVar 1) (eC (.str [103, 111])))) (sRet (eCall F_gone_on (aCons (eVar 0) (aCons (eBin kIx (eVar 2) (eC (.int 0))) (aCons (eIf (tOf (eBin kGt (eCall (o1 lenO) (aCons (eVar 2) aNil)) (eC (.int 1)))) (eBin kIx (eVar 2) (eC (.int 1))) (eC (.tup [.str [110, 111, 110, 101]]))) aNil))))) sNext)
    (sSeq (sIf (tOf (eBin kEq (eVar 1) (eC (.str [115, 104, 117, 116])))) (sRet (eCall F_shut_down (aCons (eVar 0) (aCons (eBin kIx (eVar 2) (eC (.int 0))) aNil)))) sNext)
    (sSeq (sIf (tNot (tOf (eCall F_is_fault (aCons (eVar 0) (aCons (eBin kIx (eVar 2) (eC (.int 1))) aNil))))) (sRet (eC (.tup [.str [102, 97, 117, 108, 116], .str [75, 105, 110, 100, 70, 97, 117, 108, 116]]))) sNext)
    (sRet (eCall F_thrown (aCons (eVar 0) (aCons (eBin kIx (eVar 2) (eC (.int 0))) (aCons (eBin kIx (eVar 2) (eC (.int 1))) aNil)))))))))
noncomputable def F_called_giver : FN := mkFn 3 3 b_called_giver
theorem fact_called_giver (T : Txt K w mg cad) : FnFact P w K mg base cad "called_giver" 5 [] F_called_giver := by
  exact fn_fact (k := 4) (N := N_called_giver) T.f_called_giver sc_called_giver fun fa cdv A outer s H E hr => by
    have hu := hr.units
    exact
      (iss_cons (is_if (it_not (it_of (ie_call (fact_is_giver T) (hr.mono (by decide)) rfl (ia_cons (ie_var (pv 0)) (ia_cons (ie_ix hu (ie_var (pv 2)) ie_int (fun _ _ => rfl)) ia_nil))))) (iss_one (is_ret (ie_gtup T.c_WRONG rfl))) iss_nil)
      (iss_cons (is_if (it_cmp (cm_eq hu) (ie_var (pv 1)) (ie_str (by decide +kernel)) (nomark _) bl_eq) (iss_one (is_ret (ie_call (fact_gone_on T) (hr.mono (by decide)) rfl (ia_cons (ie_var (pv 0)) (ia_cons (ie_ix hu (ie_var (pv 2)) ie_int (fun _ _ => rfl)) (ia_cons (ie_if (it_cmp cm_gt (ie_len rfl T.b_len (ia_cons (ie_var (pv 2)) ia_nil)) ie_int (nomark _) bl_ord) (ie_ix hu (ie_var (pv 2)) ie_int (fun _ _ => rfl)) (ie_gtup T.c_NONE rfl)) ia_nil)))))) iss_nil)
      (iss_cons (is_if (it_cmp (cm_eq hu) (ie_var (pv 1)) (ie_str (by decide +kernel)) (nomark _) bl_eq) (iss_one (is_ret (ie_call (fact_shut_down T) (hr.mono (by decide)) rfl (ia_cons (ie_var (pv 0)) (ia_cons (ie_ix hu (ie_var (pv 2)) ie_int (fun _ _ => rfl)) ia_nil))))) iss_nil)
      (iss_cons (is_if (it_not (it_of (ie_call (fact_is_fault T) (hr.mono (by decide)) rfl (ia_cons (ie_var (pv 0)) (ia_cons (ie_ix hu (ie_var (pv 2)) ie_int (fun _ _ => rfl)) ia_nil))))) (iss_one (is_ret (ie_gtup T.c_WRONG rfl))) iss_nil)
      (iss_one (is_ret (ie_call (fact_thrown T) (hr.mono (by decide)) rfl (ia_cons (ie_var (pv 0)) (ia_cons (ie_ix hu (ie_var (pv 2)) ie_int (fun _ _ => rfl)) (ia_cons (ie_ix hu (ie_var (pv 2)) ie_int (fun _ _ => rfl)) ia_nil))))))))))
/-! ### called_given -/
noncomputable def b_called_given : MS :=
    (sSeq (sAsg (eKdx [([115, 97, 121], .tup [.int 1, .int 1]), ([116, 97, 107, 101], .tup [.int 0, .int 0]), ([105, 115, 97], .tup [.int 2, .int 2]), ([101, 108, 100, 101, 114], .tup [.int 2, .int 2]), ([99, 111, 117, 110, 116], .tup [.int 1, .int 1]), ([103, 111], .tup [.int 1, .int 2]), ([116, 104, 114, 111, 119], .tup [.int 2, .int 2]), ([115, 104, 117, 116], .tup [.int 1, .int 1])] (eVar 1)) (mTup 2 (mCons (mName 3) (mCons (mName 4) mNil))))
    (sSeq (sIf (tNot (tOf (eChain kLe kLe (eVar 3) (eCall (o1 lenO) (aCons (eVar 2) aNil)) (eVar 4)))) (sRet (eC (.tup [.str [102, 97, 117, 108, 116], .str [75, 105, 110, 100, 70, 97, 117, 108, 116]]))) sNext)
    (sSeq (sIf (tOf (eBin kEq (eVar 1) (eC (.str [115, 97, 121])))) (sSeq (sExpr (eBM isL appM (eUn (fldM [8] "lines") (eVar 0)) (aCons (eCall F_text_of (aCons (eVar 0) (aCons (eBin kIx (eVar 2) (eC (.int 0))) aNil))) aNil)))
    (sRet (eTup (aCons (eC (.str [118, 97, 108, 117, 101])) (aCons (eC (.tup [.str [110, 111, 110, 101]])) aNil))))) sNext)
    (sSeq (sIf (tOf (eBin kEq (eVar 1) (eC (.str [116, 97, 107, 101])))) (sRet (eCall F_next_input (aCons (eVar 0) aNil))) sNext)
    (sSeq (sIf (tOf (eBin kEq (eVar 1) (eC (.str [105, 115, 97])))) (sSeq (sIf (tNot (tOf (eUn (isCM [4] 9) (eCall F_record_of (aCons (eVar 0) (aCons (eBin kIx (eVar 2) (eC (.int 1))) aNil)))))) (sRet (eC (.tup [.str [102, 97, 117, 108, 116], .str [75, 105, 110, 100, 70, 97, 117, 108, 116]]))) sNext)
    (sRet (eTup (aCons (eC (.str [118, 97, 108, 117, 101])) (aCons (eTup (aCons (eC (.str [116, 114, 117, 116, 104])) (aCons (eCall F_is_of (aCons (eVar 0) (aCons (eBin kIx (eVar 2) (eC (.int 0))) (aCons (eBin kIx (eVar 2) (eC (.int 1))) aNil)))) aNil))) aNil))))) sNext)
    (sSeq (sIf (tOf (eBin kEq (eVar 1) (eC (.str [101, 108, 100, 101, 114])))) (sRet (eCall F_view_made (aCons (eVar 0) (aCons (eBin kIx (eVar 2) (eC (.int 0))) (aCons (eBin kIx (eVar 2) (eC (.int 1))) aNil))))) sNext)
    (sSeq (sIf (tOf (eBin kEq (eVar 1) (eC (.str [99, 111, 117, 110, 116])))) (sRet (eCall F_count_giver (aCons (eVar 0) (aCons (eBin kIx (eVar 2) (eC (.int 0))) aNil)))) sNext)
    (sRet (eCall F_called_giver (aCons (eVar 0) (aCons (eVar 1) (aCons (eVar 2) aNil))))))))))))
noncomputable def F_called_given : FN := mkFn 5 3 b_called_given
theorem fact_called_given (T : Txt K w mg cad) : FnFact P w K mg base cad "called_given" 6 [] F_called_given := by
  exact fn_fact (k := 5) (N := N_called_given) T.f_called_given sc_called_given fun fa cdv A outer s H E hr => by
    have hu := hr.units
    exact
      (iss_cons (is_asg (ie_kdx T.c_COUNTS rfl (ie_var (pv 1)) (fun _ _ => rfl)) (ig_tup (n := 2) rfl (igs_cons (ig_name (i := 3) sc_called_given.nd rfl (by first | exact Or.inl rfl | exact Or.inr rfl)) (igs_cons (ig_name (i := 4) sc_called_given.nd rfl (by first | exact Or.inl rfl | exact Or.inr rfl)) igs_nil))))
      (iss_cons (is_if (it_not (it_chain cm_le cm_le (ie_var (pv 3)) (ie_len rfl T.b_len (ia_cons (ie_var (pv 2)) ia_nil)) (ie_var (pv 4)) bl_ord)) (iss_one (is_ret (ie_gtup T.c_WRONG rfl))) iss_nil)
      (iss_cons (is_if (it_cmp (cm_eq hu) (ie_var (pv 1)) (ie_str (by decide +kernel)) (nomark _) bl_eq) (iss_cons (is_expr (ie_append (ie_fld T.x_lines (ie_var (pv 0))) (ia_cons (ie_call (fact_text_of T) (hr.mono (by decide)) rfl (ia_cons (ie_var (pv 0)) (ia_cons (ie_ix hu (ie_var (pv 2)) ie_int (fun _ _ => rfl)) ia_nil))) ia_nil)))
      (iss_one (is_ret (ie_tup (ia_cons (ie_str (by decide +kernel)) (ia_cons (ie_gtup T.c_NONE rfl) ia_nil)))))) iss_nil)
      (iss_cons (is_if (it_cmp (cm_eq hu) (ie_var (pv 1)) (ie_str (by decide +kernel)) (nomark _) bl_eq) (iss_one (is_ret (ie_call (fact_next_input T) (hr.mono (by decide)) rfl (ia_cons (ie_var (pv 0)) ia_nil)))) iss_nil)
      (iss_cons (is_if (it_cmp (cm_eq hu) (ie_var (pv 1)) (ie_str (by decide +kernel)) (nomark _) bl_eq) (iss_cons (is_if (it_not (it_of (ie_isC (n := 4) T.i_Kind rfl T.b_isinstance (ie_call (fact_record_of T) (hr.mono (by decide)) rfl (ia_cons (ie_var (pv 0)) (ia_cons (ie_ix hu (ie_var (pv 2)) ie_int (fun _ _ => rfl)) ia_nil))) rfl T.g_Kind))) (iss_one (is_ret (ie_gtup T.c_WRONG rfl))) iss_nil)
      (iss_one (is_ret (ie_tup (ia_cons (ie_str (by decide +kernel)) (ia_cons (ie_tup (ia_cons (ie_str (by decide +kernel)) (ia_cons (ie_call (fact_is_of T) (hr.mono (by decide)) rfl (ia_cons (ie_var (pv 0)) (ia_cons (ie_ix hu (ie_var (pv 2)) ie_int (fun _ _ => rfl)) (ia_cons (ie_ix hu (ie_var (pv 2)) ie_int (fun _ _ => rfl)) ia_nil)))) ia_nil))) ia_nil)))))) iss_nil)
      (iss_cons (is_if (it_cmp (cm_eq hu) (ie_var (pv 1)) (ie_str (by decide +kernel)) (nomark _) bl_eq) (iss_one (is_ret (ie_call (fact_view_made T) (hr.mono (by decide)) rfl (ia_cons (ie_var (pv 0)) (ia_cons (ie_ix hu (ie_var (pv 2)) ie_int (fun _ _ => rfl)) (ia_cons (ie_ix hu (ie_var (pv 2)) ie_int (fun _ _ => rfl)) ia_nil)))))) iss_nil)
      (iss_cons (is_if (it_cmp (cm_eq hu) (ie_var (pv 1)) (ie_str (by decide +kernel)) (nomark _) bl_eq) (iss_one (is_ret (ie_call (fact_count_giver T) (hr.mono (by decide)) rfl (ia_cons (ie_var (pv 0)) (ia_cons (ie_ix hu (ie_var (pv 2)) ie_int (fun _ _ => rfl)) ia_nil))))) iss_nil)
      (iss_one (is_ret (ie_call (fact_called_giver T) (hr.mono (by decide)) rfl (ia_cons (ie_var (pv 0)) (ia_cons (ie_var (pv 1)) (ia_cons (ie_var (pv 2)) ia_nil)))))))))))))
/-! ### called -/
noncomputable def b_called : MS :=
    (sSeq (sSet 3 (eCall F_record_of (aCons (eVar 0) (aCons (eVar 1) aNil))))
    (sSeq (sIf (tOf (eUn (isCM [1] 9) (eVar 3))) (sRet (eCall F_entered (aCons (eVar 0) (aCons (eVar 1) (aCons (eVar 2) aNil))))) sNext)
    (sSeq (sIf (tOf (eUn (isCM [3] 9) (eVar 3))) (sRet (eCall F_entered (aCons (eVar 0) (aCons (eUn (fldM [3] "function") (eVar 3)) (aCons (eBin opAdd (eTup (aCons (eUn (fldM [3, 7] "owner") (eVar 3)) aNil)) (eCall (o1 tupleO) (aCons (eVar 2) aNil))) aNil))))) sNext)
    (sSeq (sIf (tOf (eUn (isCM [4] 9) (eVar 3))) (sRet (eCall F_begun_object (aCons (eVar 0) (aCons (eVar 1) (aCons (eVar 2) aNil))))) sNext)
    (sSeq (sIf (tOf (eUn (isCM [2] 9) (eVar 3))) (sRet (eCall F_called_given (aCons (eVar 0) (aCons (eUn (fldM [1, 2, 4, 6] "name") (eVar 3)) (aCons (eVar 2) aNil))))) sNext)
    (sRet (eC (.tup [.str [102, 97, 117, 108, 116], .str [75, 105, 110, 100, 70, 97, 117, 108, 116]]))))))))
noncomputable def F_called : FN := mkFn 4 3 b_called
theorem fact_called (T : Txt K w mg cad) : FnFact P w K mg base cad "called" 7 [] F_called := by
  exact fn_fact (k := 6) (N := N_called) T.f_called sc_called fun fa cdv A outer s H E hr => by
    have hu := hr.units
    exact
      (iss_cons (is_set (i := 3) sc_called.nd rfl (by first | exact Or.inl rfl | exact Or.inr rfl) (ie_call (fact_record_of T) (hr.mono (by decide)) rfl (ia_cons (ie_var (pv 0)) (ia_cons (ie_var (pv 1)) ia_nil))))
      (iss_cons (is_if (it_of (ie_isC (n := 1) T.i_Function rfl T.b_isinstance (ie_var (pv 3)) rfl T.g_Function)) (iss_one (is_ret (ie_call (fact_entered T) (hr.mono (by decide)) rfl (ia_cons (ie_var (pv 0)) (ia_cons (ie_var (pv 1)) (ia_cons (ie_var (pv 2)) ia_nil)))))) iss_nil)
      (iss_cons (is_if (it_of (ie_isC (n := 3) T.i_Method rfl T.b_isinstance (ie_var (pv 3)) rfl T.g_Method)) (iss_one (is_ret (ie_call (fact_entered T) (hr.mono (by decide)) rfl (ia_cons (ie_var (pv 0)) (ia_cons (ie_fld T.x_function (ie_var (pv 3))) (ia_cons (ie_add (ie_tup (ia_cons (ie_fld T.x_owner (ie_var (pv 3))) ia_nil)) (ie_toTuple rfl T.b_tuple (ia_cons (ie_var (pv 2)) ia_nil))) ia_nil)))))) iss_nil)
      (iss_cons (is_if (it_of (ie_isC (n := 4) T.i_Kind rfl T.b_isinstance (ie_var (pv 3)) rfl T.g_Kind)) (iss_one (is_ret (ie_call (fact_begun_object T) (hr.mono (by decide)) rfl (ia_cons (ie_var (pv 0)) (ia_cons (ie_var (pv 1)) (ia_cons (ie_var (pv 2)) ia_nil)))))) iss_nil)
      (iss_cons (is_if (it_of (ie_isC (n := 2) T.i_Given rfl T.b_isinstance (ie_var (pv 3)) rfl T.g_Given)) (iss_one (is_ret (ie_call (fact_called_given T) (hr.mono (by decide)) rfl (ia_cons (ie_var (pv 0)) (ia_cons (ie_fld T.x_name (ie_var (pv 3))) (ia_cons (ie_var (pv 2)) ia_nil)))))) iss_nil)
      (iss_one (is_ret (ie_gtup T.c_WRONG rfl))))))))
/-! ### asked -/
noncomputable def b_asked : MS :=
    (sSeq (sSet 2 (eUn (fldM [6] "state") (eCall F_record_of (aCons (eVar 0) (aCons (eVar 1) aNil)))))
    (sSeq (sIf (tOf (eBin kEq (eVar 2) (eC (.str [103, 111, 101, 115])))) (sRet (eC (.tup [.str [102, 97, 117, 108, 116], .str [75, 105, 110, 100, 70, 97, 117, 108, 116]]))) sNext)
    (sSeq (sIf (tOf (eBin kEq (eVar 2) (eC (.str [111, 118, 101, 114])))) (sRet (eTup (aCons (eC (.str [111, 118, 101, 114])) aNil))) sNext)
    (sRet (eTup (aCons (eC (.str [103, 111])) (aCons (eVar 1) (aCons (eC (.tup [.str [110, 111, 110, 101]])) aNil))))))))
noncomputable def F_asked : FN := mkFn 3 2 b_asked
theorem fact_asked (T : Txt K w mg cad) : FnFact P w K mg base cad "asked" 2 [] F_asked := by
  exact fn_fact (k := 1) (N := N_asked) T.f_asked sc_asked fun fa cdv A outer s H E hr => by
    have hu := hr.units
    exact
      (iss_cons (is_set (i := 2) sc_asked.nd rfl (by first | exact Or.inl rfl | exact Or.inr rfl) (ie_fld T.x_state (ie_call (fact_record_of T) (hr.mono (by decide)) rfl (ia_cons (ie_var (pv 0)) (ia_cons (ie_var (pv 1)) ia_nil)))))
      (iss_cons (is_if (it_cmp (cm_eq hu) (ie_var (pv 2)) (ie_str (by decide +kernel)) (nomark _) bl_eq) (iss_one (is_ret (ie_gtup T.c_WRONG rfl))) iss_nil)
      (iss_cons (is_if (it_cmp (cm_eq hu) (ie_var (pv 2)) (ie_str (by decide +kernel)) (nomark _) bl_eq) (iss_one (is_ret (ie_tup (ia_cons (ie_str (by decide +kernel)) ia_nil)))) iss_nil)
      (iss_one (is_ret (ie_tup (ia_cons (ie_str (by decide +kernel)) (ia_cons (ie_var (pv 1)) (ia_cons (ie_gtup T.c_NONE rfl) ia_nil)))))))))
/-! ### counted_on -/
noncomputable def b_counted_on : MS :=
    (sSeq (sSet 2 (eCall F_record_of (aCons (eVar 0) (aCons (eVar 1) aNil))))
    (sSeq (sIf (tOf (eBin kGe (eUn (fldM [6] "at") (eVar 2)) (eUn (fldM [6] "end") (eVar 2)))) (sSeq (sFldM [6] "state" (eVar 2) (eC (.str [111, 118, 101, 114])))
    (sRet (eTup (aCons (eC (.str [111, 118, 101, 114])) aNil)))) sNext)
    (sSeq (sFldM [6] "state" (eVar 2) (eC (.str [119, 97, 105, 116, 115])))
    (sSeq (sFldAddM [6] "at" (eVar 2) 1)
    (sRet (eTup (aCons (eC (.str [118, 97, 108, 117, 101])) (aCons (eTup (aCons (eC (.str [110, 117, 109, 98, 101, 114])) (aCons (eBin opSub (eUn (fldM [6] "at") (eVar 2)) (eC (.int 1))) aNil))) aNil))))))))
noncomputable def F_counted_on : FN := mkFn 3 2 b_counted_on
theorem fact_counted_on (T : Txt K w mg cad) : FnFact P w K mg base cad "counted_on" 2 [] F_counted_on := by
  exact fn_fact (k := 1) (N := N_counted_on) T.f_counted_on sc_counted_on fun fa cdv A outer s H E hr => by
    have hu := hr.units
    exact
      (iss_cons (is_set (i := 2) sc_counted_on.nd rfl (by first | exact Or.inl rfl | exact Or.inr rfl) (ie_call (fact_record_of T) (hr.mono (by decide)) rfl (ia_cons (ie_var (pv 0)) (ia_cons (ie_var (pv 1)) ia_nil))))
      (iss_cons (is_if (it_cmp cm_ge (ie_fld T.x_at (ie_var (pv 2))) (ie_fld T.x_end (ie_var (pv 2))) (nomark _) bl_ord) (iss_cons (is_fld T.x_state (ie_var (pv 2)) (ie_str (by decide +kernel)))
      (iss_one (is_ret (ie_tup (ia_cons (ie_str (by decide +kernel)) ia_nil))))) iss_nil)
      (iss_cons (is_fld T.x_state (ie_var (pv 2)) (ie_str (by decide +kernel)))
      (iss_cons (is_fldAdd T.x_at (ie_var (pv 2)))
      (iss_one (is_ret (ie_tup (ia_cons (ie_str (by decide +kernel)) (ia_cons (ie_tup (ia_cons (ie_str (by decide +kernel)) (ia_cons (ie_sub (ie_fld T.x_at (ie_var (pv 2))) ie_int) ia_nil))) ia_nil)))))))))
/-! ### _law_cell_at -/
noncomputable def b_l_cell_at : MS :=
    (sSeq (sIf (tOf (eBin kLt (eVar 1) (eCall (o1 lenO) (aCons (eVar 0) aNil)))) (sRet (eBin kIx (eVar 0) (eVar 1))) sNext)
    (sRet (eC (.int 0))))
noncomputable def F_l_cell_at : FN := mkFn 2 2 b_l_cell_at
theorem fact_l_cell_at (T : Txt K w mg cad) : FnFact P w K mg base cad "_law_cell_at" 1 [] F_l_cell_at := by
  exact fn_fact (k := 0) (N := N_l_cell_at) T.f_l_cell_at sc_l_cell_at fun fa cdv A outer s H E hr => by
    have hu := hr.units
    exact
      (iss_cons (is_if (it_cmp cm_lt (ie_var (pv 1)) (ie_len rfl T.b_len (ia_cons (ie_var (pv 0)) ia_nil)) (nomark _) bl_ord) (iss_one (is_ret (ie_ix hu (ie_var (pv 0)) (ie_var (pv 1)) (fun _ _ => rfl)))) iss_nil)
      (iss_one (is_ret ie_int)))
/-! ### _law_cell -/
noncomputable def b_l_cell : MS :=
    (sSeq (sPut (eVar 1) (eC (.int 0)) (eBin opAdd (eBin kIx (eVar 1) (eC (.int 0))) (eC (.int 1))))
    (sSeq (sSet 2 (eBin kIx (eVar 1) (eC (.int 0))))
    (sSeq (sSet 3 (eBin opAdd (eBin opMul (eBin opMul (eC (.int 31)) (eVar 2)) (eVar 2)) (eBin opMul (eC (.int 7919)) (eVar 2))))
    (sSeq (sIf (tOf (eBin kGt (eCall (o1 lenO) (aCons (eVar 0) aNil)) (eC (.int 0)))) (sSet 3 (eBin opAdd (eVar 3) (eBin opMul (eBin kIx (eVar 0) (eBin opMod (eVar 2) (eCall (o1 lenO) (aCons (eVar 0) aNil)))) (eBin opAdd (eC (.int 1)) (eBin opDiv (eVar 2) (eCall (o1 lenO) (aCons (eVar 0) aNil))))))) sNext)
    (sRet (eBin opDiv (eBin opMod (eBin opMul (eVar 3) (eC (.int 48271))) (eC (.int 2147483647))) (eC (.int 7))))))))
noncomputable def F_l_cell : FN := mkFn 4 2 b_l_cell
theorem fact_l_cell (T : Txt K w mg cad) : FnFact P w K mg base cad "_law_cell" 1 [] F_l_cell := by
  exact fn_fact (k := 0) (N := N_l_cell) T.f_l_cell sc_l_cell fun fa cdv A outer s H E hr => by
    have hu := hr.units
    exact
      (iss_cons (is_put hu (ie_var (pv 1)) ie_int (ie_add (ie_ix hu (ie_var (pv 1)) ie_int (fun _ _ => rfl)) ie_int))
      (iss_cons (is_set (i := 2) sc_l_cell.nd rfl (by first | exact Or.inl rfl | exact Or.inr rfl) (ie_ix hu (ie_var (pv 1)) ie_int (fun _ _ => rfl)))
      (iss_cons (is_set (i := 3) sc_l_cell.nd rfl (by first | exact Or.inl rfl | exact Or.inr rfl) (ie_add (ie_mul (ie_mul ie_int (ie_var (pv 2))) (ie_var (pv 2))) (ie_mul ie_int (ie_var (pv 2)))))
      (iss_cons (is_if (it_cmp cm_gt (ie_len rfl T.b_len (ia_cons (ie_var (pv 0)) ia_nil)) ie_int (nomark _) bl_ord) (iss_one (is_set (i := 3) sc_l_cell.nd rfl (by first | exact Or.inl rfl | exact Or.inr rfl) (ie_add (ie_var (pv 3)) (ie_mul (ie_ix hu (ie_var (pv 0)) (ie_mod (ie_var (pv 2)) (ie_len rfl T.b_len (ia_cons (ie_var (pv 0)) ia_nil))) (fun _ _ => rfl)) (ie_add ie_int (ie_div (ie_var (pv 2)) (ie_len rfl T.b_len (ia_cons (ie_var (pv 0)) ia_nil)))))))) iss_nil)
      (iss_one (is_ret (ie_div (ie_mod (ie_mul (ie_var (pv 3)) ie_int) ie_int) ie_int)))))))
/-! ### _law_plain -/
noncomputable def b_l_plain : MS :=
    (sSeq (sSet 1 (eLst (aCons (eTup (aCons (eC (.str [110, 117, 109, 98, 101, 114])) (aCons (eBin opSub (eBin opMod (eBin opDiv (eVar 0) (eC (.int 7))) (eC (.int 5))) (eC (.int 1))) aNil))) (aCons (eTup (aCons (eC (.str [116, 101, 120, 116])) (aCons (eSl (eC (.str [97, 98])) oNone (oSome (eBin opMod (eBin opDiv (eVar 0) (eC (.int 7))) (eC (.int 3))))) aNil))) (aCons (eTup (aCons (eC (.str [116, 114, 117, 116, 104])) (aCons (eBin kEq (eBin opMod (eBin opDiv (eVar 0) (eC (.int 7))) (eC (.int 2))) (eC (.int 1))) aNil))) (aCons (eTup (aCons (eC (.str [110, 111, 110, 101])) aNil)) aNil))))))
    (sRet (eIf (tOf (eBin kGt (eBin opMod (eBin opDiv (eVar 0) (eC (.int 28))) (eC (.int 5))) (eC (.int 0)))) (eBin kIx (eVar 1) (eBin opMod (eVar 0) (eC (.int 4)))) (eTup (aCons (eC (.str [110, 117, 109, 98, 101, 114])) (aCons (eBin opMod (eBin opDiv (eVar 0) (eC (.int 140))) (eBin opPow (eC (.int 10)) (eC (.int 9)))) aNil))))))
noncomputable def F_l_plain : FN := mkFn 2 1 b_l_plain
theorem fact_l_plain (T : Txt K w mg cad) : FnFact P w K mg base cad "_law_plain" 1 [] F_l_plain := by
  exact fn_fact (k := 0) (N := N_l_plain) T.f_l_plain sc_l_plain fun fa cdv A outer s H E hr => by
    have hu := hr.units
    exact
      (iss_cons (is_set (i := 1) sc_l_plain.nd rfl (by first | exact Or.inl rfl | exact Or.inr rfl) (ie_lst (ia_cons (ie_tup (ia_cons (ie_str (by decide +kernel)) (ia_cons (ie_sub (ie_mod (ie_div (ie_var (pv 0)) ie_int) ie_int) ie_int) ia_nil))) (ia_cons (ie_tup (ia_cons (ie_str (by decide +kernel)) (ia_cons (ie_sl (ie_str (by decide +kernel)) io_none (io_some (ie_mod (ie_div (ie_var (pv 0)) ie_int) ie_int))) ia_nil))) (ia_cons (ie_tup (ia_cons (ie_str (by decide +kernel)) (ia_cons (ie_cmp (cm_eq hu) (ie_mod (ie_div (ie_var (pv 0)) ie_int) ie_int) ie_int (nomark _)) ia_nil))) (ia_cons (ie_tup (ia_cons (ie_str (by decide +kernel)) ia_nil)) ia_nil))))))
      (iss_one (is_ret (ie_if (it_cmp cm_gt (ie_mod (ie_div (ie_var (pv 0)) ie_int) ie_int) ie_int (nomark _) bl_ord) (ie_ix hu (ie_var (pv 1)) (ie_mod (ie_var (pv 0)) ie_int) (fun _ _ => rfl)) (ie_tup (ia_cons (ie_str (by decide +kernel)) (ia_cons (ie_mod (ie_div (ie_var (pv 0)) ie_int) (ie_pow ie_int ie_int)) ia_nil)))))))
/-! ### _law_wrong -/
noncomputable def b_l_wrong : MS :=
    (sSeq (sSet 4 (eBin kIx (eVar 2) (eC (.str [103, 105, 118, 101, 114]))))
    (sSeq (sSet 5 (eLst (aCons (eTup (aCons (eC (.str [103, 111])) (aCons (eTup aNil) aNil))) (aCons (eTup (aCons (eC (.str [103, 111])) (aCons (eTup (aCons (eVar 4) (aCons (eVar 4) (aCons (eVar 4) aNil)))) aNil))) (aCons (eTup (aCons (eC (.str [103, 111])) (aCons (eTup (aCons (eVar 3) aNil)) aNil))) (aCons (eTup (aCons (eC (.str [116, 104, 114, 111, 119])) (aCons (eTup (aCons (eVar 4) aNil)) aNil))) (aCons (eTup (aCons (eC (.str [116, 104, 114, 111, 119])) (aCons (eTup (aCons (eVar 4) (aCons (eVar 4) aNil))) aNil))) aNil)))))))
    (sSeq (sSet 5 (eBin opAdd (eVar 5) (eLst (aCons (eTup (aCons (eC (.str [116, 104, 114, 111, 119])) (aCons (eTup (aCons (eVar 3) (aCons (eVar 3) aNil))) aNil))) (aCons (eTup (aCons (eC (.str [115, 104, 117, 116])) (aCons (eTup aNil) aNil))) (aCons (eTup (aCons (eC (.str [115, 104, 117, 116])) (aCons (eTup (aCons (eVar 4) (aCons (eVar 4) aNil))) aNil))) (aCons (eTup (aCons (eC (.str [115, 104, 117, 116])) (aCons (eTup (aCons (eVar 3) aNil)) aNil))) aNil)))))))
    (sSeq (sSet 5 (eBin opAdd (eVar 5) (eLst (aCons (eTup (aCons (eC (.str [116, 104, 114, 111, 119])) (aCons (eTup (aCons (eVar 4) (aCons (eTup (aCons (eC (.str [110, 111, 110, 101])) aNil)) aNil))) aNil))) (aCons (eTup (aCons (eC (.str [103, 111])) (aCons (eTup (aCons (eTup (aCons (eC (.str [110, 117, 109, 98, 101, 114])) (aCons (eC (.int 1)) aNil))) (aCons (eVar 4) aNil))) aNil))) aNil)))))
    (sSeq (sExpr (eBM isL appM (eVar 5) (aCons (eTup (aCons (eC (.str [116, 104, 114, 111, 119])) (aCons (eTup (aCons (eVar 4) (aCons (eCall F_known (aCons (eVar 0) (aCons (eC (.str [70, 97, 117, 108, 116])) aNil))) aNil))) aNil))) aNil)))
    (sSeq (sAsg (eBin kIx (eVar 5) (eBin opMod (eVar 1) (eC (.int 12)))) (mTup 2 (mCons (mName 6) (mCons (mName 7) mNil))))
    (sRet (eBin kEq (eCall F_called (aCons (eVar 0) (aCons (eCall F_known (aCons (eVar 0) (aCons (eVar 6) aNil))) (aCons (eVar 7) aNil)))) (eTup (aCons (eC (.str [102, 97, 117, 108, 116])) (aCons (eC (.str [75, 105, 110, 100, 70, 97, 117, 108, 116])) aNil)))))))))))
noncomputable def F_l_wrong : FN := mkFn 8 4 b_l_wrong
theorem fact_l_wrong (T : Txt K w mg cad) : FnFact P w K mg base cad "_law_wrong" 8 [] F_l_wrong := by
  exact fn_fact (k := 7) (N := N_l_wrong) T.f_l_wrong sc_l_wrong fun fa cdv A outer s H E hr => by
    have hu := hr.units
    exact
      (iss_cons (is_set (i := 4) sc_l_wrong.nd rfl (by first | exact Or.inl rfl | exact Or.inr rfl) (ie_ix hu (ie_var (pv 2)) (ie_str (by decide +kernel)) (fun _ _ => rfl)))
      (iss_cons (is_set (i := 5) sc_l_wrong.nd rfl (by first | exact Or.inl rfl | exact Or.inr rfl) (ie_lst (ia_cons (ie_tup (ia_cons (ie_str (by decide +kernel)) (ia_cons (ie_tup ia_nil) ia_nil))) (ia_cons (ie_tup (ia_cons (ie_str (by decide +kernel)) (ia_cons (ie_tup (ia_cons (ie_var (pv 4)) (ia_cons (ie_var (pv 4)) (ia_cons (ie_var (pv 4)) ia_nil)))) ia_nil))) (ia_cons (ie_tup (ia_cons (ie_str (by decide +kernel)) (ia_cons (ie_tup (ia_cons (ie_var (pv 3)) ia_nil)) ia_nil))) (ia_cons (ie_tup (ia_cons (ie_str (by decide +kernel)) (ia_cons (ie_tup (ia_cons (ie_var (pv 4)) ia_nil)) ia_nil))) (ia_cons (ie_tup (ia_cons (ie_str (by decide +kernel)) (ia_cons (ie_tup (ia_cons (ie_var (pv 4)) (ia_cons (ie_var (pv 4)) ia_nil))) ia_nil))) ia_nil)))))))
      (iss_cons (is_set (i := 5) sc_l_wrong.nd rfl (by first | exact Or.inl rfl | exact Or.inr rfl) (ie_add (ie_var (pv 5)) (ie_lst (ia_cons (ie_tup (ia_cons (ie_str (by decide +kernel)) (ia_cons (ie_tup (ia_cons (ie_var (pv 3)) (ia_cons (ie_var (pv 3)) ia_nil))) ia_nil))) (ia_cons (ie_tup (ia_cons (ie_str (by decide +kernel)) (ia_cons (ie_tup ia_nil) ia_nil))) (ia_cons (ie_tup (ia_cons (ie_str (by decide +kernel)) (ia_cons (ie_tup (ia_cons (ie_var (pv 4)) (ia_cons (ie_var (pv 4)) ia_nil))) ia_nil))) (ia_cons (ie_tup (ia_cons (ie_str (by decide +kernel)) (ia_cons (ie_tup (ia_cons (ie_var (pv 3)) ia_nil)) ia_nil))) ia_nil)))))))
      (iss_cons (is_set (i := 5) sc_l_wrong.nd rfl (by first | exact Or.inl rfl | exact Or.inr rfl) (ie_add (ie_var (pv 5)) (ie_lst (ia_cons (ie_tup (ia_cons (ie_str (by decide +kernel)) (ia_cons (ie_tup (ia_cons (ie_var (pv 4)) (ia_cons (ie_tup (ia_cons (ie_str (by decide +kernel)) ia_nil)) ia_nil))) ia_nil))) (ia_cons (ie_tup (ia_cons (ie_str (by decide +kernel)) (ia_cons (ie_tup (ia_cons (ie_tup (ia_cons (ie_str (by decide +kernel)) (ia_cons ie_int ia_nil))) (ia_cons (ie_var (pv 4)) ia_nil))) ia_nil))) ia_nil)))))
      (iss_cons (is_expr (ie_append (ie_var (pv 5)) (ia_cons (ie_tup (ia_cons (ie_str (by decide +kernel)) (ia_cons (ie_tup (ia_cons (ie_var (pv 4)) (ia_cons (ie_call (fact_known T) (hr.mono (by decide)) rfl (ia_cons (ie_var (pv 0)) (ia_cons (ie_str (by decide +kernel)) ia_nil))) ia_nil))) ia_nil))) ia_nil)))
      (iss_cons (is_asg (ie_ix hu (ie_var (pv 5)) (ie_mod (ie_var (pv 1)) ie_int) (fun _ _ => rfl)) (ig_tup (n := 2) rfl (igs_cons (ig_name (i := 6) sc_l_wrong.nd rfl (by first | exact Or.inl rfl | exact Or.inr rfl)) (igs_cons (ig_name (i := 7) sc_l_wrong.nd rfl (by first | exact Or.inl rfl | exact Or.inr rfl)) igs_nil))))
      (iss_one (is_ret (ie_cmp (cm_eq hu) (ie_call (fact_called T) (hr.mono (by decide)) rfl (ia_cons (ie_var (pv 0)) (ia_cons (ie_call (fact_known T) (hr.mono (by decide)) rfl (ia_cons (ie_var (pv 0)) (ia_cons (ie_var (pv 6)) ia_nil))) (ia_cons (ie_var (pv 7)) ia_nil)))) (ie_tup (ia_cons (ie_str (by decide +kernel)) (ia_cons (ie_str (by decide +kernel)) ia_nil))) (nomark _))))))))))
/-! ### _law_go -/
noncomputable def b_l_go : MS :=
    (sSeq (sIf (tOr (tOf (eBin kEq (eBin kIx (eVar 1) (eC (.str [115, 116, 97, 116, 101]))) (eC (.str [103, 111, 101, 115])))) (tAnd (tOf (eBin kEq (eBin kIx (eVar 1) (eC (.str [115, 116, 97, 116, 101]))) (eC (.str [110, 101, 119])))) (tAnd (tOf (eBin kNe (eVar 2) (eTup (aCons (eC (.str [110, 111, 110, 101])) aNil)))) (tOf (eBin kIsNot (eBin kIx (eVar 1) (eC (.str [102, 114, 97, 109, 101]))) (eC .non)))))) (sRet (eBin kEq (eVar 3) (eTup (aCons (eC (.str [102, 97, 117, 108, 116])) (aCons (eC (.str [75, 105, 110, 100, 70, 97, 117, 108, 116])) aNil))))) sNext)
    (sSeq (sIf (tOf (eBin kEq (eBin kIx (eVar 1) (eC (.str [115, 116, 97, 116, 101]))) (eC (.str [111, 118, 101, 114])))) (sRet (eBin kEq (eVar 3) (eTup (aCons (eC (.str [102, 97, 117, 108, 116])) (aCons (eC (.str [69, 110, 100, 70, 97, 117, 108, 116])) aNil))))) sNext)
    (sRet (eBin kEq (eVar 3) (eTup (aCons (eC (.str [103, 111])) (aCons (eBin kIx (eVar 1) (eC (.str [103, 105, 118, 101, 114]))) (aCons (eVar 2) aNil))))))))
noncomputable def F_l_go : FN := mkFn 4 4 b_l_go
theorem fact_l_go (T : Txt K w mg cad) : FnFact P w K mg base cad "_law_go" 1 [] F_l_go := by
  exact fn_fact (k := 0) (N := N_l_go) T.f_l_go sc_l_go fun fa cdv A outer s H E hr => by
    have hu := hr.units
    exact
      (iss_cons (is_if (it_bool (iw_or (it_cmp (cm_eq hu) (ie_ix hu (ie_var (pv 1)) (ie_str (by decide +kernel)) (fun _ _ => rfl)) (ie_str (by decide +kernel)) (nomark _) bl_eq) (iw_or1 (it_bool (iw_and (it_cmp (cm_eq hu) (ie_ix hu (ie_var (pv 1)) (ie_str (by decide +kernel)) (fun _ _ => rfl)) (ie_str (by decide +kernel)) (nomark _) bl_eq) (iw_and (it_cmp (cm_ne hu) (ie_var (pv 2)) (ie_tup (ia_cons (ie_str (by decide +kernel)) ia_nil)) (nomark _) bl_ne) (iw_and1 (it_cmp cm_isnot (ie_ix hu (ie_var (pv 1)) (ie_str (by decide +kernel)) (fun _ _ => rfl)) ie_non (nomark _) bl_isnot)))))))) (iss_one (is_ret (ie_cmp (cm_eq hu) (ie_var (pv 3)) (ie_tup (ia_cons (ie_str (by decide +kernel)) (ia_cons (ie_str (by decide +kernel)) ia_nil))) (nomark _)))) iss_nil)
      (iss_cons (is_if (it_cmp (cm_eq hu) (ie_ix hu (ie_var (pv 1)) (ie_str (by decide +kernel)) (fun _ _ => rfl)) (ie_str (by decide +kernel)) (nomark _) bl_eq) (iss_one (is_ret (ie_cmp (cm_eq hu) (ie_var (pv 3)) (ie_tup (ia_cons (ie_str (by decide +kernel)) (ia_cons (ie_str (by decide +kernel)) ia_nil))) (nomark _)))) iss_nil)
      (iss_one (is_ret (ie_cmp (cm_eq hu) (ie_var (pv 3)) (ie_tup (ia_cons (ie_str (by decide +kernel)) (ia_cons (ie_ix hu (ie_var (pv 1)) (ie_str (by decide +kernel)) (fun _ _ => rfl)) (ia_cons (ie_var (pv 2)) ia_nil)))) (nomark _))))))
/-! ### _law_counted -/
noncomputable def b_l_counted : MS :=
    (sSeq (sSet 2 (eCall F_counted_on (aCons (eVar 0) (aCons (eBin kIx (eVar 1) (eC (.str [103, 105, 118, 101, 114]))) aNil))))
    (sSeq (sIf (tOf (eBin kGe (eBin kIx (eVar 1) (eC (.str [97, 116]))) (eBin kIx (eVar 1) (eC (.str [101, 110, 100]))))) (sSeq (sPut (eVar 1) (eC (.str [115, 116, 97, 116, 101])) (eC (.str [111, 118, 101, 114])))
    (sRet (eBin kEq (eVar 2) (eTup (aCons (eC (.str [111, 118, 101, 114])) aNil))))) sNext)
    (sSeq (sPut (eVar 1) (eC (.str [97, 116])) (eBin opAdd (eBin kIx (eVar 1) (eC (.str [97, 116]))) (eC (.int 1))))
    (sSeq (sPut (eVar 1) (eC (.str [115, 116, 97, 116, 101])) (eC (.str [119, 97, 105, 116, 115])))
    (sRet (eBin kEq (eVar 2) (eTup (aCons (eC (.str [118, 97, 108, 117, 101])) (aCons (eTup (aCons (eC (.str [110, 117, 109, 98, 101, 114])) (aCons (eBin opSub (eBin kIx (eVar 1) (eC (.str [97, 116]))) (eC (.int 1))) aNil))) aNil)))))))))
noncomputable def F_l_counted : FN := mkFn 3 2 b_l_counted
theorem fact_l_counted (T : Txt K w mg cad) : FnFact P w K mg base cad "_law_counted" 3 [] F_l_counted := by
  exact fn_fact (k := 2) (N := N_l_counted) T.f_l_counted sc_l_counted fun fa cdv A outer s H E hr => by
    have hu := hr.units
    exact
      (iss_cons (is_set (i := 2) sc_l_counted.nd rfl (by first | exact Or.inl rfl | exact Or.inr rfl) (ie_call (fact_counted_on T) (hr.mono (by decide)) rfl (ia_cons (ie_var (pv 0)) (ia_cons (ie_ix hu (ie_var (pv 1)) (ie_str (by decide +kernel)) (fun _ _ => rfl)) ia_nil))))
      (iss_cons (is_if (it_cmp cm_ge (ie_ix hu (ie_var (pv 1)) (ie_str (by decide +kernel)) (fun _ _ => rfl)) (ie_ix hu (ie_var (pv 1)) (ie_str (by decide +kernel)) (fun _ _ => rfl)) (nomark _) bl_ord) (iss_cons (is_put hu (ie_var (pv 1)) (ie_str (by decide +kernel)) (ie_str (by decide +kernel)))
      (iss_one (is_ret (ie_cmp (cm_eq hu) (ie_var (pv 2)) (ie_tup (ia_cons (ie_str (by decide +kernel)) ia_nil)) (nomark _))))) iss_nil)
      (iss_cons (is_put hu (ie_var (pv 1)) (ie_str (by decide +kernel)) (ie_add (ie_ix hu (ie_var (pv 1)) (ie_str (by decide +kernel)) (fun _ _ => rfl)) ie_int))
      (iss_cons (is_put hu (ie_var (pv 1)) (ie_str (by decide +kernel)) (ie_str (by decide +kernel)))
      (iss_one (is_ret (ie_cmp (cm_eq hu) (ie_var (pv 2)) (ie_tup (ia_cons (ie_str (by decide +kernel)) (ia_cons (ie_tup (ia_cons (ie_str (by decide +kernel)) (ia_cons (ie_sub (ie_ix hu (ie_var (pv 1)) (ie_str (by decide +kernel)) (fun _ _ => rfl)) ie_int) ia_nil))) ia_nil))) (nomark _))))))))
/-! ### _law_goes_on -/
noncomputable def b_l_goes_on : MS :=
    (sSeq (sSet 3 (eIf (tOf (eBin kEq (eBin opMod (eVar 2) (eC (.int 3))) (eC (.int 0)))) (eCall F_l_plain (aCons (eBin opDiv (eVar 2) (eC (.int 8))) aNil)) (eTup (aCons (eC (.str [110, 111, 110, 101])) aNil))))
    (sSeq (sIf (tOf (eBin kEq (eBin opMod (eVar 2) (eC (.int 4))) (eC (.int 0)))) (sSeq (sSet 4 (eCall F_asked (aCons (eVar 0) (aCons (eBin kIx (eVar 1) (eC (.str [103, 105, 118, 101, 114]))) aNil))))
    (sSeq (sSet 5 (eGet2 (eDisp (psCons (eC (.str [103, 111, 101, 115])) (eTup (aCons (eC (.str [102, 97, 117, 108, 116])) (aCons (eC (.str [75, 105, 110, 100, 70, 97, 117, 108, 116])) aNil))) (psCons (eC (.str [111, 118, 101, 114])) (eTup (aCons (eC (.str [111, 118, 101, 114])) aNil)) psNil))) (eBin kIx (eVar 1) (eC (.str [115, 116, 97, 116, 101]))) (eTup (aCons (eC (.str [103, 111])) (aCons (eBin kIx (eVar 1) (eC (.str [103, 105, 118, 101, 114]))) (aCons (eTup (aCons (eC (.str [110, 111, 110, 101])) aNil)) aNil))))))
    (sSet 6 (eBin kEq (eVar 4) (eVar 5))))) (sSeq (sSet 7 (eIf (tOr (tOf (eBin kNe (eVar 3) (eTup (aCons (eC (.str [110, 111, 110, 101])) aNil)))) (tOf (eBin kEq (eBin opMod (eBin opDiv (eVar 2) (eC (.int 8))) (eC (.int 2))) (eC (.int 1))))) (eTup (aCons (eBin kIx (eVar 1) (eC (.str [103, 105, 118, 101, 114]))) (aCons (eVar 3) aNil))) (eTup (aCons (eBin kIx (eVar 1) (eC (.str [103, 105, 118, 101, 114]))) aNil))))
    (sSeq (sSet 4 (eCall F_called (aCons (eVar 0) (aCons (eCall F_known (aCons (eVar 0) (aCons (eC (.str [103, 111])) aNil))) (aCons (eVar 7) aNil)))))
    (sSet 6 (eCall F_l_go (aCons (eVar 0) (aCons (eVar 1) (aCons (eVar 3) (aCons (eVar 4) aNil)))))))))
    (sSeq (sIf (tAnd (tOf (eVar 6)) (tAnd (tOf (eBin kEq (eBin kIx (eVar 4) (eC (.int 0))) (eC (.str [103, 111])))) (tOf (eBin kIs (eBin kIx (eVar 1) (eC (.str [102, 114, 97, 109, 101]))) (eC .non))))) (sRet (eCall F_l_counted (aCons (eVar 0) (aCons (eVar 1) aNil)))) sNext)
    (sSeq (sIf (tAnd (tOf (eVar 6)) (tOf (eBin kEq (eBin kIx (eVar 4) (eC (.int 0))) (eC (.str [103, 111]))))) (sSeq (sPut (eVar 1) (eC (.str [115, 116, 97, 116, 101])) (eBin kIx (eLst (aCons (eC (.str [103, 111, 101, 115])) (aCons (eC (.str [119, 97, 105, 116, 115])) (aCons (eC (.str [111, 118, 101, 114])) aNil)))) (eBin opMod (eBin opDiv (eVar 2) (eC (.int 16))) (eC (.int 3)))))
    (sExpr (eCall F_set_state (aCons (eVar 0) (aCons (eBin kIx (eVar 1) (eC (.str [103, 105, 118, 101, 114]))) (aCons (eBin kIx (eVar 1) (eC (.str [115, 116, 97, 116, 101]))) aNil)))))) sNext)
    (sRet (eVar 6))))))
noncomputable def F_l_goes_on : FN := mkFn 8 3 b_l_goes_on
theorem fact_l_goes_on (T : Txt K w mg cad) : FnFact P w K mg base cad "_law_goes_on" 8 [] F_l_goes_on := by
  exact fn_fact (k := 7) (N := N_l_goes_on) T.f_l_goes_on sc_l_goes_on fun fa cdv A outer s H E hr => by
    have hu := hr.units
    exact
      (iss_cons (is_set (i := 3) sc_l_goes_on.nd rfl (by first | exact Or.inl rfl | exact Or.inr rfl) (ie_if (it_cmp (cm_eq hu) (ie_mod (ie_var (pv 2)) ie_int) ie_int (nomark _) bl_eq) (ie_call (fact_l_plain T) (hr.mono (by decide)) rfl (ia_cons (ie_div (ie_var (pv 2)) ie_int) ia_nil)) (ie_tup (ia_cons (ie_str (by decide +kernel)) ia_nil))))
      (iss_cons (is_if (it_cmp (cm_eq hu) (ie_mod (ie_var (pv 2)) ie_int) ie_int (nomark _) bl_eq) (iss_cons (is_set (i := 4) sc_l_goes_on.nd rfl (by first | exact Or.inl rfl | exact Or.inr rfl) (ie_call (fact_asked T) (hr.mono (by decide)) rfl (ia_cons (ie_var (pv 0)) (ia_cons (ie_ix hu (ie_var (pv 1)) (ie_str (by decide +kernel)) (fun _ _ => rfl)) ia_nil))))
      (iss_cons (is_set (i := 5) sc_l_goes_on.nd rfl (by first | exact Or.inl rfl | exact Or.inr rfl) (ie_get2 hu (ie_disp (ips_cons (ie_str (by decide +kernel)) (ie_tup (ia_cons (ie_str (by decide +kernel)) (ia_cons (ie_str (by decide +kernel)) ia_nil))) (ips_cons (ie_str (by decide +kernel)) (ie_tup (ia_cons (ie_str (by decide +kernel)) ia_nil)) ips_nil)) rfl rfl (by simp) (by decide)) (ie_ix hu (ie_var (pv 1)) (ie_str (by decide +kernel)) (fun _ _ => rfl)) (ie_tup (ia_cons (ie_str (by decide +kernel)) (ia_cons (ie_ix hu (ie_var (pv 1)) (ie_str (by decide +kernel)) (fun _ _ => rfl)) (ia_cons (ie_tup (ia_cons (ie_str (by decide +kernel)) ia_nil)) ia_nil)))) ⟨rfl, rfl, rfl, rfl⟩))
      (iss_one (is_set (i := 6) sc_l_goes_on.nd rfl (by first | exact Or.inl rfl | exact Or.inr rfl) (ie_cmp (cm_eq hu) (ie_var (pv 4)) (ie_var (pv 5)) (nomark _)))))) (iss_cons (is_set (i := 7) sc_l_goes_on.nd rfl (by first | exact Or.inl rfl | exact Or.inr rfl) (ie_if (it_bool (iw_or (it_cmp (cm_ne hu) (ie_var (pv 3)) (ie_tup (ia_cons (ie_str (by decide +kernel)) ia_nil)) (nomark _) bl_ne) (iw_or1 (it_cmp (cm_eq hu) (ie_mod (ie_div (ie_var (pv 2)) ie_int) ie_int) ie_int (nomark _) bl_eq)))) (ie_tup (ia_cons (ie_ix hu (ie_var (pv 1)) (ie_str (by decide +kernel)) (fun _ _ => rfl)) (ia_cons (ie_var (pv 3)) ia_nil))) (ie_tup (ia_cons (ie_ix hu (ie_var (pv 1)) (ie_str (by decide +kernel)) (fun _ _ => rfl)) ia_nil))))
      (iss_cons (is_set (i := 4) sc_l_goes_on.nd rfl (by first | exact Or.inl rfl | exact Or.inr rfl) (ie_call (fact_called T) (hr.mono (by decide)) rfl (ia_cons (ie_var (pv 0)) (ia_cons (ie_call (fact_known T) (hr.mono (by decide)) rfl (ia_cons (ie_var (pv 0)) (ia_cons (ie_str (by decide +kernel)) ia_nil))) (ia_cons (ie_var (pv 7)) ia_nil)))))
      (iss_one (is_set (i := 6) sc_l_goes_on.nd rfl (by first | exact Or.inl rfl | exact Or.inr rfl) (ie_call (fact_l_go T) (hr.mono (by decide)) rfl (ia_cons (ie_var (pv 0)) (ia_cons (ie_var (pv 1)) (ia_cons (ie_var (pv 3)) (ia_cons (ie_var (pv 4)) ia_nil))))))))))
      (iss_cons (is_if (it_bool (iw_and (it_of (ie_var (pv 6))) (iw_and (it_cmp (cm_eq hu) (ie_ix hu (ie_var (pv 4)) ie_int (fun _ _ => rfl)) (ie_str (by decide +kernel)) (nomark _) bl_eq) (iw_and1 (it_cmp cm_is (ie_ix hu (ie_var (pv 1)) (ie_str (by decide +kernel)) (fun _ _ => rfl)) ie_non (nomark _) bl_is))))) (iss_one (is_ret (ie_call (fact_l_counted T) (hr.mono (by decide)) rfl (ia_cons (ie_var (pv 0)) (ia_cons (ie_var (pv 1)) ia_nil))))) iss_nil)
      (iss_cons (is_if (it_bool (iw_and (it_of (ie_var (pv 6))) (iw_and1 (it_cmp (cm_eq hu) (ie_ix hu (ie_var (pv 4)) ie_int (fun _ _ => rfl)) (ie_str (by decide +kernel)) (nomark _) bl_eq)))) (iss_cons (is_put hu (ie_var (pv 1)) (ie_str (by decide +kernel)) (ie_ix hu (ie_lst (ia_cons (ie_str (by decide +kernel)) (ia_cons (ie_str (by decide +kernel)) (ia_cons (ie_str (by decide +kernel)) ia_nil)))) (ie_mod (ie_div (ie_var (pv 2)) ie_int) ie_int) (fun _ _ => rfl)))
      (iss_one (is_expr (ie_call (fact_set_state T) (hr.mono (by decide)) rfl (ia_cons (ie_var (pv 0)) (ia_cons (ie_ix hu (ie_var (pv 1)) (ie_str (by decide +kernel)) (fun _ _ => rfl)) (ia_cons (ie_ix hu (ie_var (pv 1)) (ie_str (by decide +kernel)) (fun _ _ => rfl)) ia_nil))))))) iss_nil)
      (iss_one (is_ret (ie_var (pv 6))))))))
/-! ### _law_thrown -/
noncomputable def b_l_thrown : MS :=
    (sSeq (sSet 3 (eCall F_called (aCons (eVar 0) (aCons (eCall F_known (aCons (eVar 0) (aCons (eC (.str [116, 104, 114, 111, 119])) aNil))) (aCons (eTup (aCons (eBin kIx (eVar 1) (eC (.str [103, 105, 118, 101, 114]))) (aCons (eVar 2) aNil))) aNil)))))
    (sSeq (sIf (tOf (eBin kEq (eBin kIx (eVar 1) (eC (.str [115, 116, 97, 116, 101]))) (eC (.str [103, 111, 101, 115])))) (sRet (eBin kEq (eVar 3) (eTup (aCons (eC (.str [102, 97, 117, 108, 116])) (aCons (eC (.str [75, 105, 110, 100, 70, 97, 117, 108, 116])) aNil))))) sNext)
    (sSeq (sIf (tOf (eBin kEq (eBin kIx (eVar 1) (eC (.str [115, 116, 97, 116, 101]))) (eC (.str [111, 118, 101, 114])))) (sRet (eBin kEq (eVar 3) (eTup (aCons (eC (.str [114, 97, 105, 115, 101])) (aCons (eVar 2) aNil))))) sNext)
    (sRet (eBin kEq (eVar 3) (eTup (aCons (eC (.str [116, 104, 114, 111, 119])) (aCons (eBin kIx (eVar 1) (eC (.str [103, 105, 118, 101, 114]))) (aCons (eVar 2) aNil)))))))))
noncomputable def F_l_thrown : FN := mkFn 4 3 b_l_thrown
theorem fact_l_thrown (T : Txt K w mg cad) : FnFact P w K mg base cad "_law_thrown" 8 [] F_l_thrown := by
  exact fn_fact (k := 7) (N := N_l_thrown) T.f_l_thrown sc_l_thrown fun fa cdv A outer s H E hr => by
    have hu := hr.units
    exact
      (iss_cons (is_set (i := 3) sc_l_thrown.nd rfl (by first | exact Or.inl rfl | exact Or.inr rfl) (ie_call (fact_called T) (hr.mono (by decide)) rfl (ia_cons (ie_var (pv 0)) (ia_cons (ie_call (fact_known T) (hr.mono (by decide)) rfl (ia_cons (ie_var (pv 0)) (ia_cons (ie_str (by decide +kernel)) ia_nil))) (ia_cons (ie_tup (ia_cons (ie_ix hu (ie_var (pv 1)) (ie_str (by decide +kernel)) (fun _ _ => rfl)) (ia_cons (ie_var (pv 2)) ia_nil))) ia_nil)))))
      (iss_cons (is_if (it_cmp (cm_eq hu) (ie_ix hu (ie_var (pv 1)) (ie_str (by decide +kernel)) (fun _ _ => rfl)) (ie_str (by decide +kernel)) (nomark _) bl_eq) (iss_one (is_ret (ie_cmp (cm_eq hu) (ie_var (pv 3)) (ie_tup (ia_cons (ie_str (by decide +kernel)) (ia_cons (ie_str (by decide +kernel)) ia_nil))) (nomark _)))) iss_nil)
      (iss_cons (is_if (it_cmp (cm_eq hu) (ie_ix hu (ie_var (pv 1)) (ie_str (by decide +kernel)) (fun _ _ => rfl)) (ie_str (by decide +kernel)) (nomark _) bl_eq) (iss_one (is_ret (ie_cmp (cm_eq hu) (ie_var (pv 3)) (ie_tup (ia_cons (ie_str (by decide +kernel)) (ia_cons (ie_var (pv 2)) ia_nil))) (nomark _)))) iss_nil)
      (iss_one (is_ret (ie_cmp (cm_eq hu) (ie_var (pv 3)) (ie_tup (ia_cons (ie_str (by decide +kernel)) (ia_cons (ie_ix hu (ie_var (pv 1)) (ie_str (by decide +kernel)) (fun _ _ => rfl)) (ia_cons (ie_var (pv 2)) ia_nil)))) (nomark _)))))))
/-! ### _law_shut -/
noncomputable def b_l_shut : MS :=
    (sSeq (sSet 2 (eCall F_called (aCons (eVar 0) (aCons (eCall F_known (aCons (eVar 0) (aCons (eC (.str [115, 104, 117, 116])) aNil))) (aCons (eTup (aCons (eBin kIx (eVar 1) (eC (.str [103, 105, 118, 101, 114]))) aNil)) aNil)))))
    (sSeq (sIf (tOf (eBin kEq (eBin kIx (eVar 1) (eC (.str [115, 116, 97, 116, 101]))) (eC (.str [103, 111, 101, 115])))) (sRet (eBin kEq (eVar 2) (eTup (aCons (eC (.str [102, 97, 117, 108, 116])) (aCons (eC (.str [75, 105, 110, 100, 70, 97, 117, 108, 116])) aNil))))) sNext)
    (sSeq (sIf (tOf (eBin kEq (eBin kIx (eVar 1) (eC (.str [115, 116, 97, 116, 101]))) (eC (.str [119, 97, 105, 116, 115])))) (sRet (eBin kEq (eVar 2) (eTup (aCons (eC (.str [115, 104, 117, 116])) (aCons (eBin kIx (eVar 1) (eC (.str [103, 105, 118, 101, 114]))) aNil))))) sNext)
    (sSeq (sPut (eVar 1) (eC (.str [115, 116, 97, 116, 101])) (eC (.str [111, 118, 101, 114])))
    (sRet (eBin kEq (eVar 2) (eTup (aCons (eC (.str [118, 97, 108, 117, 101])) (aCons (eTup (aCons (eC (.str [110, 111, 110, 101])) aNil)) aNil)))))))))
noncomputable def F_l_shut : FN := mkFn 3 2 b_l_shut
theorem fact_l_shut (T : Txt K w mg cad) : FnFact P w K mg base cad "_law_shut" 8 [] F_l_shut := by
  exact fn_fact (k := 7) (N := N_l_shut) T.f_l_shut sc_l_shut fun fa cdv A outer s H E hr => by
    have hu := hr.units
    exact
      (iss_cons (is_set (i := 2) sc_l_shut.nd rfl (by first | exact Or.inl rfl | exact Or.inr rfl) (ie_call (fact_called T) (hr.mono (by decide)) rfl (ia_cons (ie_var (pv 0)) (ia_cons (ie_call (fact_known T) (hr.mono (by decide)) rfl (ia_cons (ie_var (pv 0)) (ia_cons (ie_str (by decide +kernel)) ia_nil))) (ia_cons (ie_tup (ia_cons (ie_ix hu (ie_var (pv 1)) (ie_str (by decide +kernel)) (fun _ _ => rfl)) ia_nil)) ia_nil)))))
      (iss_cons (is_if (it_cmp (cm_eq hu) (ie_ix hu (ie_var (pv 1)) (ie_str (by decide +kernel)) (fun _ _ => rfl)) (ie_str (by decide +kernel)) (nomark _) bl_eq) (iss_one (is_ret (ie_cmp (cm_eq hu) (ie_var (pv 2)) (ie_tup (ia_cons (ie_str (by decide +kernel)) (ia_cons (ie_str (by decide +kernel)) ia_nil))) (nomark _)))) iss_nil)
      (iss_cons (is_if (it_cmp (cm_eq hu) (ie_ix hu (ie_var (pv 1)) (ie_str (by decide +kernel)) (fun _ _ => rfl)) (ie_str (by decide +kernel)) (nomark _) bl_eq) (iss_one (is_ret (ie_cmp (cm_eq hu) (ie_var (pv 2)) (ie_tup (ia_cons (ie_str (by decide +kernel)) (ia_cons (ie_ix hu (ie_var (pv 1)) (ie_str (by decide +kernel)) (fun _ _ => rfl)) ia_nil))) (nomark _)))) iss_nil)
      (iss_cons (is_put hu (ie_var (pv 1)) (ie_str (by decide +kernel)) (ie_str (by decide +kernel)))
      (iss_one (is_ret (ie_cmp (cm_eq hu) (ie_var (pv 2)) (ie_tup (ia_cons (ie_str (by decide +kernel)) (ia_cons (ie_tup (ia_cons (ie_str (by decide +kernel)) ia_nil)) ia_nil))) (nomark _))))))))
/-! ### _law_deed -/
noncomputable def b_l_deed : MS :=
    (sSeq (sSet 4 (eCall F_l_cell (aCons (eVar 2) (aCons (eVar 3) aNil))))
    (sSeq (sSet 5 (eBin kIx (eVar 1) (eBin opMod (eVar 4) (eCall (o1 lenO) (aCons (eVar 1) aNil)))))
    (sSeq (sSet 6 (eBin opDiv (eVar 4) (eC (.int 5))))
    (sSeq (sSet 7 (eCallD F_made [(.non : D)] (aCons (eVar 0) (aCons (eBin kIx (eLst (aCons (eC (.str [70, 97, 117, 108, 116])) (aCons (eC (.str [69, 110, 100, 70, 97, 117, 108, 116])) (aCons (eC (.str [83, 104, 117, 116, 70, 97, 117, 108, 116])) aNil)))) (eBin opMod (eVar 6) (eC (.int 3)))) aNil))))
    (sSeq (sIf (tOf (eBin kLt (eBin opMod (eVar 6) (eC (.int 7))) (eC (.int 3)))) (sRet (eCall F_l_goes_on (aCons (eVar 0) (aCons (eVar 5) (aCons (eBin opDiv (eVar 6) (eC (.int 7))) aNil))))) sNext)
    (sSeq (sIf (tOf (eBin kEq (eBin opMod (eVar 6) (eC (.int 7))) (eC (.int 3)))) (sRet (eCall F_l_thrown (aCons (eVar 0) (aCons (eVar 5) (aCons (eVar 7) aNil))))) sNext)
    (sSeq (sIf (tOf (eBin kEq (eBin opMod (eVar 6) (eC (.int 7))) (eC (.int 4)))) (sRet (eCall F_l_shut (aCons (eVar 0) (aCons (eVar 5) aNil)))) sNext)
    (sSeq (sIf (tOf (eBin kEq (eBin opMod (eVar 6) (eC (.int 7))) (eC (.int 5)))) (sRet (eCall F_l_wrong (aCons (eVar 0) (aCons (eBin opDiv (eVar 6) (eC (.int 7))) (aCons (eVar 5) (aCons (eVar 7) aNil)))))) sNext)
    (sSeq (sPut (eVar 5) (eC (.str [115, 116, 97, 116, 101])) (eBin kIx (eLst (aCons (eC (.str [110, 101, 119])) (aCons (eC (.str [119, 97, 105, 116, 115])) (aCons (eC (.str [103, 111, 101, 115])) (aCons (eC (.str [111, 118, 101, 114])) aNil))))) (eBin opMod (eBin opDiv (eVar 6) (eC (.int 7))) (eC (.int 4)))))
    (sSeq (sExpr (eCall F_set_state (aCons (eVar 0) (aCons (eBin kIx (eVar 5) (eC (.str [103, 105, 118, 101, 114]))) (aCons (eBin kIx (eVar 5) (eC (.str [115, 116, 97, 116, 101]))) aNil)))))
    (sRet (eAnd (eNot (eCall F_is_giver (aCons (eVar 0) (aCons (eVar 7) aNil)))) (eNot (eCall F_is_giver (aCons (eVar 0) (aCons (eCall F_l_plain (aCons (eVar 6) aNil)) aNil))))))))))))))))
noncomputable def F_l_deed : FN := mkFn 8 4 b_l_deed
theorem fact_l_deed (T : Txt K w mg cad) : FnFact P w K mg base cad "_law_deed" 9 [] F_l_deed := by
  exact fn_fact (k := 8) (N := N_l_deed) T.f_l_deed sc_l_deed fun fa cdv A outer s H E hr => by
    have hu := hr.units
    exact
      (iss_cons (is_set (i := 4) sc_l_deed.nd rfl (by first | exact Or.inl rfl | exact Or.inr rfl) (ie_call (fact_l_cell T) (hr.mono (by decide)) rfl (ia_cons (ie_var (pv 2)) (ia_cons (ie_var (pv 3)) ia_nil))))
      (iss_cons (is_set (i := 5) sc_l_deed.nd rfl (by first | exact Or.inl rfl | exact Or.inr rfl) (ie_ix hu (ie_var (pv 1)) (ie_mod (ie_var (pv 4)) (ie_len rfl T.b_len (ia_cons (ie_var (pv 1)) ia_nil))) (fun _ _ => rfl)))
      (iss_cons (is_set (i := 6) sc_l_deed.nd rfl (by first | exact Or.inl rfl | exact Or.inr rfl) (ie_div (ie_var (pv 4)) ie_int))
      (iss_cons (is_set (i := 7) sc_l_deed.nd rfl (by first | exact Or.inl rfl | exact Or.inr rfl) (ie_callD (fact_made_1 T) (hr.mono (by decide)) rfl (ia_cons (ie_var (pv 0)) (ia_cons (ie_ix hu (ie_lst (ia_cons (ie_str (by decide +kernel)) (ia_cons (ie_str (by decide +kernel)) (ia_cons (ie_str (by decide +kernel)) ia_nil)))) (ie_mod (ie_var (pv 6)) ie_int) (fun _ _ => rfl)) ia_nil))))
      (iss_cons (is_if (it_cmp cm_lt (ie_mod (ie_var (pv 6)) ie_int) ie_int (nomark _) bl_ord) (iss_one (is_ret (ie_call (fact_l_goes_on T) (hr.mono (by decide)) rfl (ia_cons (ie_var (pv 0)) (ia_cons (ie_var (pv 5)) (ia_cons (ie_div (ie_var (pv 6)) ie_int) ia_nil)))))) iss_nil)
      (iss_cons (is_if (it_cmp (cm_eq hu) (ie_mod (ie_var (pv 6)) ie_int) ie_int (nomark _) bl_eq) (iss_one (is_ret (ie_call (fact_l_thrown T) (hr.mono (by decide)) rfl (ia_cons (ie_var (pv 0)) (ia_cons (ie_var (pv 5)) (ia_cons (ie_var (pv 7)) ia_nil)))))) iss_nil)
      (iss_cons (is_if (it_cmp (cm_eq hu) (ie_mod (ie_var (pv 6)) ie_int) ie_int (nomark _) bl_eq) (iss_one (is_ret (ie_call (fact_l_shut T) (hr.mono (by decide)) rfl (ia_cons (ie_var (pv 0)) (ia_cons (ie_var (pv 5)) ia_nil))))) iss_nil)
      (iss_cons (is_if (it_cmp (cm_eq hu) (ie_mod (ie_var (pv 6)) ie_int) ie_int (nomark _) bl_eq) (iss_one (is_ret (ie_call (fact_l_wrong T) (hr.mono (by decide)) rfl (ia_cons (ie_var (pv 0)) (ia_cons (ie_div (ie_var (pv 6)) ie_int) (ia_cons (ie_var (pv 5)) (ia_cons (ie_var (pv 7)) ia_nil))))))) iss_nil)
      (iss_cons (is_put hu (ie_var (pv 5)) (ie_str (by decide +kernel)) (ie_ix hu (ie_lst (ia_cons (ie_str (by decide +kernel)) (ia_cons (ie_str (by decide +kernel)) (ia_cons (ie_str (by decide +kernel)) (ia_cons (ie_str (by decide +kernel)) ia_nil))))) (ie_mod (ie_div (ie_var (pv 6)) ie_int) ie_int) (fun _ _ => rfl)))
      (iss_cons (is_expr (ie_call (fact_set_state T) (hr.mono (by decide)) rfl (ia_cons (ie_var (pv 0)) (ia_cons (ie_ix hu (ie_var (pv 5)) (ie_str (by decide +kernel)) (fun _ _ => rfl)) (ia_cons (ie_ix hu (ie_var (pv 5)) (ie_str (by decide +kernel)) (fun _ _ => rfl)) ia_nil)))))
      (iss_one (is_ret (ie_andV (ie_notV (ie_call (fact_is_giver T) (hr.mono (by decide)) rfl (ia_cons (ie_var (pv 0)) (ia_cons (ie_var (pv 7)) ia_nil)))) (ie_one (ie_notV (ie_call (fact_is_giver T) (hr.mono (by decide)) rfl (ia_cons (ie_var (pv 0)) (ia_cons (ie_call (fact_l_plain T) (hr.mono (by decide)) rfl (ia_cons (ie_var (pv 6)) ia_nil)) ia_nil))))))))))))))))))
/-! ### _law_far_right -/
noncomputable def uF_l_far_right_1 : MS :=
    (sIf (tOr (tOf (eBin kNe (eCall F_asked (aCons (eVar 0) (aCons (eVar 2) aNil))) (eTup (aCons (eC (.str [103, 111])) (aCons (eVar 2) (aCons (eTup (aCons (eC (.str [110, 111, 110, 101])) aNil)) aNil)))))) (tOf (eBin kNe (eCall F_counted_on (aCons (eVar 0) (aCons (eVar 2) aNil))) (eTup (aCons (eC (.str [118, 97, 108, 117, 101])) (aCons (eTup (aCons (eC (.str [110, 117, 109, 98, 101, 114])) (aCons (eVar 3) aNil))) aNil)))))) (sRet (eC (.bl false))) sNext)
noncomputable def b_l_far_right : MS :=
    (sSeq (sSet 2 (eBin kIx (eCall F_called (aCons (eVar 0) (aCons (eCall F_known (aCons (eVar 0) (aCons (eC (.str [99, 111, 117, 110, 116])) aNil))) (aCons (eTup (aCons (eTup (aCons (eC (.str [110, 117, 109, 98, 101, 114])) (aCons (eVar 1) aNil))) aNil)) aNil)))) (eC (.int 1))))
    (sSeq (sFor (iR1 (aCons (eVar 1) aNil)) (mName 3) uF_l_far_right_1)
    (sRet (eAnd (eBin kEq (eCall F_counted_on (aCons (eVar 0) (aCons (eVar 2) aNil))) (eTup (aCons (eC (.str [111, 118, 101, 114])) aNil))) (eAnd (eBin kEq (eCall F_asked (aCons (eVar 0) (aCons (eVar 2) aNil))) (eTup (aCons (eC (.str [111, 118, 101, 114])) aNil))) (eBin kEq (eCall F_state_of (aCons (eVar 0) (aCons (eVar 2) aNil))) (eC (.str [111, 118, 101, 114]))))))))
noncomputable def F_l_far_right : FN := mkFn 4 2 b_l_far_right
theorem fact_l_far_right (T : Txt K w mg cad) : FnFact P w K mg base cad "_law_far_right" 8 [] F_l_far_right := by
  exact fn_fact (k := 7) (N := N_l_far_right) T.f_l_far_right sc_l_far_right fun fa cdv A outer s H E hr => by
    have hu := hr.units
    exact
      (iss_cons (is_set (i := 2) sc_l_far_right.nd rfl (by first | exact Or.inl rfl | exact Or.inr rfl) (ie_ix hu (ie_call (fact_called T) (hr.mono (by decide)) rfl (ia_cons (ie_var (pv 0)) (ia_cons (ie_call (fact_known T) (hr.mono (by decide)) rfl (ia_cons (ie_var (pv 0)) (ia_cons (ie_str (by decide +kernel)) ia_nil))) (ia_cons (ie_tup (ia_cons (ie_tup (ia_cons (ie_str (by decide +kernel)) (ia_cons (ie_var (pv 1)) ia_nil))) ia_nil)) ia_nil)))) ie_int (fun _ _ => rfl)))
      (iss_cons (is_for PassesOwn.never rfl (ii_r1 rfl T.b_range (ia_cons (ie_var (pv 1)) ia_nil)) (ig_name (i := 3) sc_l_far_right.nd rfl (by first | exact Or.inl rfl | exact Or.inr rfl)) (iss_one (is_if (it_bool (iw_or (it_cmp (cm_ne hu) (ie_call (fact_asked T) (hr.mono (by decide)) rfl (ia_cons (ie_var (pv 0)) (ia_cons (ie_var (pv 2)) ia_nil))) (ie_tup (ia_cons (ie_str (by decide +kernel)) (ia_cons (ie_var (pv 2)) (ia_cons (ie_tup (ia_cons (ie_str (by decide +kernel)) ia_nil)) ia_nil)))) (nomark _) bl_ne) (iw_or1 (it_cmp (cm_ne hu) (ie_call (fact_counted_on T) (hr.mono (by decide)) rfl (ia_cons (ie_var (pv 0)) (ia_cons (ie_var (pv 2)) ia_nil))) (ie_tup (ia_cons (ie_str (by decide +kernel)) (ia_cons (ie_tup (ia_cons (ie_str (by decide +kernel)) (ia_cons (ie_var (pv 3)) ia_nil))) ia_nil))) (nomark _) bl_ne)))) (iss_one (is_ret ie_bl)) iss_nil)))
      (iss_one (is_ret (ie_andV (ie_cmp (cm_eq hu) (ie_call (fact_counted_on T) (hr.mono (by decide)) rfl (ia_cons (ie_var (pv 0)) (ia_cons (ie_var (pv 2)) ia_nil))) (ie_tup (ia_cons (ie_str (by decide +kernel)) ia_nil)) (nomark _)) (ie_andV (ie_cmp (cm_eq hu) (ie_call (fact_asked T) (hr.mono (by decide)) rfl (ia_cons (ie_var (pv 0)) (ia_cons (ie_var (pv 2)) ia_nil))) (ie_tup (ia_cons (ie_str (by decide +kernel)) ia_nil)) (nomark _)) (ie_one (ie_cmp (cm_eq hu) (ie_call (fact_state_of T) (hr.mono (by decide)) rfl (ia_cons (ie_var (pv 0)) (ia_cons (ie_var (pv 2)) ia_nil))) (ie_str (by decide +kernel)) (nomark _)))))))))
/-! ### law -/
noncomputable def eC_law_1 : ME :=
    (eBin (kIsB false) (eCall F_is_giver (aCons (eVar 3) (aCons (eBin kIx (eVar 10) (eC (.str [103, 105, 118, 101, 114]))) aNil))) (eC (.bl true)))
noncomputable def uF_law_2 : MS :=
    (sIf (tOr (tOf (eBin kNe (eCall F_state_of (aCons (eVar 3) (aCons (eBin kIx (eVar 10) (eC (.str [103, 105, 118, 101, 114]))) aNil))) (eBin kIx (eVar 10) (eC (.str [115, 116, 97, 116, 101]))))) (tOf (eBin kNe (eCall F_frame_of (aCons (eVar 3) (aCons (eBin kIx (eVar 10) (eC (.str [103, 105, 118, 101, 114]))) aNil))) (eBin kIx (eVar 10) (eC (.str [102, 114, 97, 109, 101])))))) (sRet (eC (.bl false))) sNext)
noncomputable def uF_law_3 : MS :=
    (sSeq (sIf (tNot (tOf (eCall F_l_deed (aCons (eVar 3) (aCons (eVar 4) (aCons (eVar 1) (aCons (eVar 2) aNil))))))) (sRet (eC (.bl false))) sNext)
    (sFor (iV (eVar 4)) (mName 10) uF_law_2))
noncomputable def uF_law_4 : MS :=
    (sSeq (sSet 7 (eBin opSub (eBin opMod (eCall F_l_cell (aCons (eVar 1) (aCons (eVar 2) aNil))) (eC (.int 8))) (eC (.int 2))))
    (sSeq (sSet 8 (eCall F_called (aCons (eVar 3) (aCons (eCall F_known (aCons (eVar 3) (aCons (eC (.str [99, 111, 117, 110, 116])) aNil))) (aCons (eTup (aCons (eTup (aCons (eC (.str [110, 117, 109, 98, 101, 114])) (aCons (eVar 7) aNil))) aNil)) aNil)))))
    (sExpr (eBM isL appM (eVar 4) (aCons (eDisp (psCons (eC (.str [103, 105, 118, 101, 114])) (eBin kIx (eVar 8) (eC (.int 1))) (psCons (eC (.str [102, 114, 97, 109, 101])) (eC .non) (psCons (eC (.str [115, 116, 97, 116, 101])) (eC (.str [110, 101, 119])) (psCons (eC (.str [97, 116])) (eC (.int 0)) (psCons (eC (.str [101, 110, 100])) (eVar 7) psNil)))))) aNil)))))
noncomputable def uF_law_5 : MS :=
    (sSeq (sSet 6 (eBin kIx (eLst (aCons (eLst (aCons (eC (.str [97])) (aCons (eLst (aCons (eC (.int 1)) aNil)) aNil))) (aCons (eTup (aCons (eC (.str [98])) aNil)) (aCons (eC (.int 5)) (aCons (eC (.str [120])) aNil))))) (eVar 5)))
    (sExpr (eBM isL appM (eVar 4) (aCons (eDisp (psCons (eC (.str [103, 105, 118, 101, 114])) (eCall F_giver (aCons (eVar 3) (aCons (eBin opAdd (eC (.str [102])) (eCall (o1 strO) (aCons (eVar 5) aNil))) (aCons (eVar 6) aNil)))) (psCons (eC (.str [102, 114, 97, 109, 101])) (eVar 6) (psCons (eC (.str [115, 116, 97, 116, 101])) (eC (.str [110, 101, 119])) psNil)))) aNil))))
noncomputable def b_law : MS :=
    (sSeq (sSet 1 (eSl (eVar 0) (oSome (eC (.int 1))) (oSome (eC (.int 40)))))
    (sSeq (sSet 2 (eLst (aCons (eC (.int 0)) aNil)))
    (sSeq (sSet 3 (eMake 8 F_World_init (aCons (eLst aNil) aNil)))
    (sSeq (sSet 4 (eLst aNil))
    (sSeq (sFor (iR1 (aCons (eBin opAdd (eC (.int 1)) (eBin opMod (eCall F_l_cell_at (aCons (eVar 0) (aCons (eC (.int 0)) aNil))) (eC (.int 4)))) aNil)) (mName 5) uF_law_5)
    (sSeq (sFor (iR1 (aCons (eC (.int 2)) aNil)) (mName 5) uF_law_4)
    (sSeq (sFor (iR1 (aCons (eC (.int 30)) aNil)) (mName 9) uF_law_3)
    (sSeq (sSet 11 (eCall F_l_cell_at (aCons (eVar 0) (aCons (eC (.int 0)) aNil))))
    (sSeq (sIf (tNot (tOf (eCall F_l_far_right (aCons (eVar 3) (aCons (eBin kIx (eLst (aCons (eBin opAdd (eC (.int 210)) (eBin opMod (eBin opDiv (eVar 11) (eC (.int 4))) (eC (.int 900)))) (aCons (eC (.int 10000)) aNil))) (eCall (o1 intO) (aCons (eBin kEq (eBin opMod (eBin opDiv (eVar 11) (eC (.int 4))) (eC (.int 9))) (eC (.int 1))) aNil))) aNil))))) (sRet (eC (.bl false))) sNext)
    (sRet (eAnd (eCall (o1 allO) (aCons (eLc [10] (iV (eVar 4)) (mName 10) tYesM eC_law_1) aNil)) (eBin (kIsB false) (eCall F_is_giver (aCons (eVar 3) (aCons (eTup (aCons (eC (.str [110, 111, 110, 101])) aNil)) aNil))) (eC (.bl false))))))))))))))
noncomputable def F_law : FN := mkFn 12 1 b_law
theorem ok_law (T : Txt K w mg cad) {f : Addr} {fd : FuncData} (F : Fun K "law" "law" s_law f fd) : FnOk P w K mg base CX0 10 f fd ["_law_script"] (spOf K cad F_law) := by
  exact fn_ok (k := 9) (N := N_law) F sc_law fun cdv A outer s H E hr => by
    have hu := hr.units
    exact
      (iss_cons (is_set (i := 1) sc_law.nd rfl (by first | exact Or.inl rfl | exact Or.inr rfl) (ie_sl (ie_var (pv 0)) (io_some ie_int) (io_some ie_int)))
      (iss_cons (is_set (i := 2) sc_law.nd rfl (by first | exact Or.inl rfl | exact Or.inr rfl) (ie_lst (ia_cons ie_int ia_nil)))
      (iss_cons (is_set (i := 3) sc_law.nd rfl (by first | exact Or.inl rfl | exact Or.inr rfl) (ie_make (fact_World_init T) (hr.mono (by decide)) rfl (ia_cons (ie_lst ia_nil) ia_nil)))
      (iss_cons (is_set (i := 4) sc_law.nd rfl (by first | exact Or.inl rfl | exact Or.inr rfl) (ie_lst ia_nil))
      (iss_cons (is_for PassesOwn.never rfl (ii_r1 rfl T.b_range (ia_cons (ie_add ie_int (ie_mod (ie_call (fact_l_cell_at T) (hr.mono (by decide)) rfl (ia_cons (ie_var (pv 0)) (ia_cons ie_int ia_nil))) ie_int)) ia_nil)) (ig_name (i := 5) sc_law.nd rfl (by first | exact Or.inl rfl | exact Or.inr rfl)) (iss_cons (is_set (i := 6) sc_law.nd rfl (by first | exact Or.inl rfl | exact Or.inr rfl) (ie_ix hu (ie_lst (ia_cons (ie_lst (ia_cons (ie_str (by decide +kernel)) (ia_cons (ie_lst (ia_cons ie_int ia_nil)) ia_nil))) (ia_cons (ie_tup (ia_cons (ie_str (by decide +kernel)) ia_nil)) (ia_cons ie_int (ia_cons (ie_str (by decide +kernel)) ia_nil))))) (ie_var (pv 5)) (fun _ _ => rfl)))
      (iss_one (is_expr (ie_append (ie_var (pv 4)) (ia_cons (ie_disp (ips_cons (ie_str (by decide +kernel)) (ie_call (fact_giver T) (hr.mono (by decide)) rfl (ia_cons (ie_var (pv 3)) (ia_cons (ie_add (ie_str (by decide +kernel)) (ie_toStr rfl T.b_str (ia_cons (ie_var (pv 5)) ia_nil))) (ia_cons (ie_var (pv 6)) ia_nil)))) (ips_cons (ie_str (by decide +kernel)) (ie_var (pv 6)) (ips_cons (ie_str (by decide +kernel)) (ie_str (by decide +kernel)) ips_nil))) rfl rfl (by simp) (by decide)) ia_nil))))))
      (iss_cons (is_for PassesOwn.never rfl (ii_r1 rfl T.b_range (ia_cons ie_int ia_nil)) (ig_name (i := 5) sc_law.nd rfl (by first | exact Or.inl rfl | exact Or.inr rfl)) (iss_cons (is_set (i := 7) sc_law.nd rfl (by first | exact Or.inl rfl | exact Or.inr rfl) (ie_sub (ie_mod (ie_call (fact_l_cell T) (hr.mono (by decide)) rfl (ia_cons (ie_var (pv 1)) (ia_cons (ie_var (pv 2)) ia_nil))) ie_int) ie_int))
      (iss_cons (is_set (i := 8) sc_law.nd rfl (by first | exact Or.inl rfl | exact Or.inr rfl) (ie_call (fact_called T) (hr.mono (by decide)) rfl (ia_cons (ie_var (pv 3)) (ia_cons (ie_call (fact_known T) (hr.mono (by decide)) rfl (ia_cons (ie_var (pv 3)) (ia_cons (ie_str (by decide +kernel)) ia_nil))) (ia_cons (ie_tup (ia_cons (ie_tup (ia_cons (ie_str (by decide +kernel)) (ia_cons (ie_var (pv 7)) ia_nil))) ia_nil)) ia_nil)))))
      (iss_one (is_expr (ie_append (ie_var (pv 4)) (ia_cons (ie_disp (ips_cons (ie_str (by decide +kernel)) (ie_ix hu (ie_var (pv 8)) ie_int (fun _ _ => rfl)) (ips_cons (ie_str (by decide +kernel)) ie_non (ips_cons (ie_str (by decide +kernel)) (ie_str (by decide +kernel)) (ips_cons (ie_str (by decide +kernel)) ie_int (ips_cons (ie_str (by decide +kernel)) (ie_var (pv 7)) ips_nil))))) rfl rfl (by simp) (by decide)) ia_nil)))))))
      (iss_cons (is_for PassesOwn.never rfl (ii_r1 rfl T.b_range (ia_cons ie_int ia_nil)) (ig_name (i := 9) sc_law.nd rfl (by first | exact Or.inl rfl | exact Or.inr rfl)) (iss_cons (is_if (it_not (it_of (ie_call (fact_l_deed T) (hr.mono (by decide)) rfl (ia_cons (ie_var (pv 3)) (ia_cons (ie_var (pv 4)) (ia_cons (ie_var (pv 1)) (ia_cons (ie_var (pv 2)) ia_nil))))))) (iss_one (is_ret ie_bl)) iss_nil)
      (iss_one (is_for PassesOwn.never rfl (ii_v (ie_var (pv 4))) (ig_name (i := 10) sc_law.nd rfl (by first | exact Or.inl rfl | exact Or.inr rfl)) (iss_one (is_if (it_bool (iw_or (it_cmp (cm_ne hu) (ie_call (fact_state_of T) (hr.mono (by decide)) rfl (ia_cons (ie_var (pv 3)) (ia_cons (ie_ix hu (ie_var (pv 10)) (ie_str (by decide +kernel)) (fun _ _ => rfl)) ia_nil))) (ie_ix hu (ie_var (pv 10)) (ie_str (by decide +kernel)) (fun _ _ => rfl)) (nomark _) bl_ne) (iw_or1 (it_cmp (cm_ne hu) (ie_call (fact_frame_of T) (hr.mono (by decide)) rfl (ia_cons (ie_var (pv 3)) (ia_cons (ie_ix hu (ie_var (pv 10)) (ie_str (by decide +kernel)) (fun _ _ => rfl)) ia_nil))) (ie_ix hu (ie_var (pv 10)) (ie_str (by decide +kernel)) (fun _ _ => rfl)) (nomark _) bl_ne)))) (iss_one (is_ret ie_bl)) iss_nil))))))
      (iss_cons (is_set (i := 11) sc_law.nd rfl (by first | exact Or.inl rfl | exact Or.inr rfl) (ie_call (fact_l_cell_at T) (hr.mono (by decide)) rfl (ia_cons (ie_var (pv 0)) (ia_cons ie_int ia_nil))))
      (iss_cons (is_if (it_not (it_of (ie_call (fact_l_far_right T) (hr.mono (by decide)) rfl (ia_cons (ie_var (pv 3)) (ia_cons (ie_ix hu (ie_lst (ia_cons (ie_add ie_int (ie_mod (ie_div (ie_var (pv 11)) ie_int) ie_int)) (ia_cons ie_int ia_nil))) (ie_toInt rfl T.b_int (ia_cons (ie_cmp (cm_eq hu) (ie_mod (ie_div (ie_var (pv 11)) ie_int) ie_int) ie_int (nomark _)) ia_nil)) (fun _ _ => rfl)) ia_nil))))) (iss_one (is_ret ie_bl)) iss_nil)
      (iss_one (is_ret (ie_andV (ie_all rfl rfl T.b_all (ia_cons (ie_lc (own := [("_law_one", 10)]) (t := tYesM) (tt := tYes) rfl sc_law.nd (ii_v (ie_var (pv 4))) (blkOk_by (N := N_law) (sc := defScope s_law) (by decide +kernel)) (fun _ _ _ _ _ => (pg_name (i := 10) sc_law.nd rfl (by first | exact Or.inl rfl | exact Or.inr rfl))) (gw_name (i := 10) (by decide)) (fun _ _ _ _ _ => pts_nil) tYes_to (fun _ _ _ _ _ => (ie_cmp cm_isB (ie_call (fact_is_giver T) (hr.mono (by decide)) rfl (ia_cons (ie_var (pv 3)) (ia_cons (ie_ix hu (ie_var (pv 10)) (ie_str (by decide +kernel)) (fun _ _ => rfl)) ia_nil))) ie_bl (nomark _)))) ia_nil)) (ie_one (ie_cmp cm_isB (ie_call (fact_is_giver T) (hr.mono (by decide)) rfl (ia_cons (ie_var (pv 3)) (ia_cons (ie_tup (ia_cons (ie_str (by decide +kernel)) ia_nil)) ia_nil))) ie_bl (nomark _)))))))))))))))
theorem all_mk {l : PySem.W.OpenLaw} {w : World} {K : PySem.W.Frag} {h : Heap} {mg : Str → Option Value} {fa : Addr} (X : K.In h) (G : h.Ns mainGlobals mg) (hfa : mg "law" = some (.ref fa))
    {C0 C1 C2 C3 C4 C5 C6 C7 C8 : Addr}
    (gC0 : PySem.W.nsIn K mainGlobals "Record" = some (some (.ref C0)))
    (pg0 : PySem.W.plainGet K C0 Str.empty = true)
    (hd0 : PySem.W.hasDictIn K C0 = true)
    (po0 : PySem.W.plainOver K C0 = true)
    (sa0 : PySem.W.findIn K (.ref C0) "__setattr__" = some (some (.builtin "object.__setattr__")))
    (cc0 : PySem.W.findIn K (.ref C0) "__class__" = some (some (.builtin "object.__class__")))
    (mr0 : PySem.W.mroIn K C0 (.type "object") = some true)
    (gC1 : PySem.W.nsIn K mainGlobals "Function" = some (some (.ref C1)))
    (pg1 : PySem.W.plainGet K C1 Str.empty = true)
    (hd1 : PySem.W.hasDictIn K C1 = true)
    (po1 : PySem.W.plainOver K C1 = true)
    (sa1 : PySem.W.findIn K (.ref C1) "__setattr__" = some (some (.builtin "object.__setattr__")))
    (cc1 : PySem.W.findIn K (.ref C1) "__class__" = some (some (.builtin "object.__class__")))
    (mr1 : PySem.W.mroIn K C1 (.type "object") = some true)
    (gC2 : PySem.W.nsIn K mainGlobals "Given" = some (some (.ref C2)))
    (pg2 : PySem.W.plainGet K C2 Str.empty = true)
    (hd2 : PySem.W.hasDictIn K C2 = true)
    (po2 : PySem.W.plainOver K C2 = true)
    (sa2 : PySem.W.findIn K (.ref C2) "__setattr__" = some (some (.builtin "object.__setattr__")))
    (cc2 : PySem.W.findIn K (.ref C2) "__class__" = some (some (.builtin "object.__class__")))
    (mr2 : PySem.W.mroIn K C2 (.type "object") = some true)
    (gC3 : PySem.W.nsIn K mainGlobals "Method" = some (some (.ref C3)))
    (pg3 : PySem.W.plainGet K C3 Str.empty = true)
    (hd3 : PySem.W.hasDictIn K C3 = true)
    (po3 : PySem.W.plainOver K C3 = true)
    (sa3 : PySem.W.findIn K (.ref C3) "__setattr__" = some (some (.builtin "object.__setattr__")))
    (cc3 : PySem.W.findIn K (.ref C3) "__class__" = some (some (.builtin "object.__class__")))
    (mr3 : PySem.W.mroIn K C3 (.type "object") = some true)
    (gC4 : PySem.W.nsIn K mainGlobals "Kind" = some (some (.ref C4)))
    (pg4 : PySem.W.plainGet K C4 Str.empty = true)
    (hd4 : PySem.W.hasDictIn K C4 = true)
    (po4 : PySem.W.plainOver K C4 = true)
    (sa4 : PySem.W.findIn K (.ref C4) "__setattr__" = some (some (.builtin "object.__setattr__")))
    (cc4 : PySem.W.findIn K (.ref C4) "__class__" = some (some (.builtin "object.__class__")))
    (mr4 : PySem.W.mroIn K C4 (.type "object") = some true)
    (gC5 : PySem.W.nsIn K mainGlobals "Made" = some (some (.ref C5)))
    (pg5 : PySem.W.plainGet K C5 Str.empty = true)
    (hd5 : PySem.W.hasDictIn K C5 = true)
    (po5 : PySem.W.plainOver K C5 = true)
    (sa5 : PySem.W.findIn K (.ref C5) "__setattr__" = some (some (.builtin "object.__setattr__")))
    (cc5 : PySem.W.findIn K (.ref C5) "__class__" = some (some (.builtin "object.__class__")))
    (mr5 : PySem.W.mroIn K C5 (.type "object") = some true)
    (gC6 : PySem.W.nsIn K mainGlobals "Giver" = some (some (.ref C6)))
    (pg6 : PySem.W.plainGet K C6 Str.empty = true)
    (hd6 : PySem.W.hasDictIn K C6 = true)
    (po6 : PySem.W.plainOver K C6 = true)
    (sa6 : PySem.W.findIn K (.ref C6) "__setattr__" = some (some (.builtin "object.__setattr__")))
    (cc6 : PySem.W.findIn K (.ref C6) "__class__" = some (some (.builtin "object.__class__")))
    (mr6 : PySem.W.mroIn K C6 (.type "object") = some true)
    (gC7 : PySem.W.nsIn K mainGlobals "View" = some (some (.ref C7)))
    (pg7 : PySem.W.plainGet K C7 Str.empty = true)
    (hd7 : PySem.W.hasDictIn K C7 = true)
    (po7 : PySem.W.plainOver K C7 = true)
    (sa7 : PySem.W.findIn K (.ref C7) "__setattr__" = some (some (.builtin "object.__setattr__")))
    (cc7 : PySem.W.findIn K (.ref C7) "__class__" = some (some (.builtin "object.__class__")))
    (mr7 : PySem.W.mroIn K C7 (.type "object") = some true)
    (gC8 : PySem.W.nsIn K mainGlobals "World" = some (some (.ref C8)))
    (pg8 : PySem.W.plainGet K C8 Str.empty = true)
    (hd8 : PySem.W.hasDictIn K C8 = true)
    (po8 : PySem.W.plainOver K C8 = true)
    (sa8 : PySem.W.findIn K (.ref C8) "__setattr__" = some (some (.builtin "object.__setattr__")))
    (cc8 : PySem.W.findIn K (.ref C8) "__class__" = some (some (.builtin "object.__class__")))
    (mr8 : PySem.W.mroIn K C8 (.type "object") = some true)
    (ogs : PySem.W.specialIn K (.builtin "object.__class__") "__get__" = some (some (.builtin "getset_descriptor.__get__")))
    (otk : PySem.W.takesIn K (.builtin "object.__class__") = some true)
    (na6_at : PySem.W.findIn K (.ref C6) "at" = some none)
    (na1_defaults : PySem.W.findIn K (.ref C1) "defaults" = some none)
    (na6_end : PySem.W.findIn K (.ref C6) "end" = some none)
    (na4_fields : PySem.W.findIn K (.ref C4) "fields" = some none)
    (na5_fields : PySem.W.findIn K (.ref C5) "fields" = some none)
    (na6_frame : PySem.W.findIn K (.ref C6) "frame" = some none)
    (na3_function : PySem.W.findIn K (.ref C3) "function" = some none)
    (na8_given_things : PySem.W.findIn K (.ref C8) "given_things" = some none)
    (na4_is_given : PySem.W.findIn K (.ref C4) "is_given" = some none)
    (na5_kind : PySem.W.findIn K (.ref C5) "kind" = some none)
    (na8_left : PySem.W.findIn K (.ref C8) "left" = some none)
    (na8_lines : PySem.W.findIn K (.ref C8) "lines" = some none)
    (na1_name : PySem.W.findIn K (.ref C1) "name" = some none)
    (na2_name : PySem.W.findIn K (.ref C2) "name" = some none)
    (na4_name : PySem.W.findIn K (.ref C4) "name" = some none)
    (na6_name : PySem.W.findIn K (.ref C6) "name" = some none)
    (na4_order : PySem.W.findIn K (.ref C4) "order" = some none)
    (na7_order : PySem.W.findIn K (.ref C7) "order" = some none)
    (na3_owner : PySem.W.findIn K (.ref C3) "owner" = some none)
    (na7_owner : PySem.W.findIn K (.ref C7) "owner" = some none)
    (na1_params : PySem.W.findIn K (.ref C1) "params" = some none)
    (na6_state : PySem.W.findIn K (.ref C6) "state" = some none)
    (na8_things : PySem.W.findIn K (.ref C8) "things" = some none)
    {xc1 : _}
    (ci1 : PySem.W.clsIn K C1 = some xc1)
    (ti1 : PySem.W.typeIn K (.ref C1) = some (.type "type"))
    (sn1 : PySem.W.subIn K (.type "NoneType") (.ref C1) = some false)
    (su0_1 : PySem.W.subIn K (.ref C0) (.ref C1) = some false)
    (su1_1 : PySem.W.subIn K (.ref C1) (.ref C1) = some true)
    (su2_1 : PySem.W.subIn K (.ref C2) (.ref C1) = some false)
    (su3_1 : PySem.W.subIn K (.ref C3) (.ref C1) = some false)
    (su4_1 : PySem.W.subIn K (.ref C4) (.ref C1) = some false)
    (su5_1 : PySem.W.subIn K (.ref C5) (.ref C1) = some false)
    (su6_1 : PySem.W.subIn K (.ref C6) (.ref C1) = some false)
    (su7_1 : PySem.W.subIn K (.ref C7) (.ref C1) = some false)
    (su8_1 : PySem.W.subIn K (.ref C8) (.ref C1) = some false)
    {xc2 : _}
    (ci2 : PySem.W.clsIn K C2 = some xc2)
    (ti2 : PySem.W.typeIn K (.ref C2) = some (.type "type"))
    (sn2 : PySem.W.subIn K (.type "NoneType") (.ref C2) = some false)
    (su0_2 : PySem.W.subIn K (.ref C0) (.ref C2) = some false)
    (su1_2 : PySem.W.subIn K (.ref C1) (.ref C2) = some false)
    (su2_2 : PySem.W.subIn K (.ref C2) (.ref C2) = some true)
    (su3_2 : PySem.W.subIn K (.ref C3) (.ref C2) = some false)
    (su4_2 : PySem.W.subIn K (.ref C4) (.ref C2) = some false)
    (su5_2 : PySem.W.subIn K (.ref C5) (.ref C2) = some false)
    (su6_2 : PySem.W.subIn K (.ref C6) (.ref C2) = some false)
    (su7_2 : PySem.W.subIn K (.ref C7) (.ref C2) = some false)
    (su8_2 : PySem.W.subIn K (.ref C8) (.ref C2) = some false)
    {xc6 : _}
    (ci6 : PySem.W.clsIn K C6 = some xc6)
    (ti6 : PySem.W.typeIn K (.ref C6) = some (.type "type"))
    (sn6 : PySem.W.subIn K (.type "NoneType") (.ref C6) = some false)
    (su0_6 : PySem.W.subIn K (.ref C0) (.ref C6) = some false)
    (su1_6 : PySem.W.subIn K (.ref C1) (.ref C6) = some false)
    (su2_6 : PySem.W.subIn K (.ref C2) (.ref C6) = some false)
    (su3_6 : PySem.W.subIn K (.ref C3) (.ref C6) = some false)
    (su4_6 : PySem.W.subIn K (.ref C4) (.ref C6) = some false)
    (su5_6 : PySem.W.subIn K (.ref C5) (.ref C6) = some false)
    (su6_6 : PySem.W.subIn K (.ref C6) (.ref C6) = some true)
    (su7_6 : PySem.W.subIn K (.ref C7) (.ref C6) = some false)
    (su8_6 : PySem.W.subIn K (.ref C8) (.ref C6) = some false)
    {xc4 : _}
    (ci4 : PySem.W.clsIn K C4 = some xc4)
    (ti4 : PySem.W.typeIn K (.ref C4) = some (.type "type"))
    (sn4 : PySem.W.subIn K (.type "NoneType") (.ref C4) = some false)
    (su0_4 : PySem.W.subIn K (.ref C0) (.ref C4) = some false)
    (su1_4 : PySem.W.subIn K (.ref C1) (.ref C4) = some false)
    (su2_4 : PySem.W.subIn K (.ref C2) (.ref C4) = some false)
    (su3_4 : PySem.W.subIn K (.ref C3) (.ref C4) = some false)
    (su4_4 : PySem.W.subIn K (.ref C4) (.ref C4) = some true)
    (su5_4 : PySem.W.subIn K (.ref C5) (.ref C4) = some false)
    (su6_4 : PySem.W.subIn K (.ref C6) (.ref C4) = some false)
    (su7_4 : PySem.W.subIn K (.ref C7) (.ref C4) = some false)
    (su8_4 : PySem.W.subIn K (.ref C8) (.ref C4) = some false)
    {xc5 : _}
    (ci5 : PySem.W.clsIn K C5 = some xc5)
    (ti5 : PySem.W.typeIn K (.ref C5) = some (.type "type"))
    (sn5 : PySem.W.subIn K (.type "NoneType") (.ref C5) = some false)
    (su0_5 : PySem.W.subIn K (.ref C0) (.ref C5) = some false)
    (su1_5 : PySem.W.subIn K (.ref C1) (.ref C5) = some false)
    (su2_5 : PySem.W.subIn K (.ref C2) (.ref C5) = some false)
    (su3_5 : PySem.W.subIn K (.ref C3) (.ref C5) = some false)
    (su4_5 : PySem.W.subIn K (.ref C4) (.ref C5) = some false)
    (su5_5 : PySem.W.subIn K (.ref C5) (.ref C5) = some true)
    (su6_5 : PySem.W.subIn K (.ref C6) (.ref C5) = some false)
    (su7_5 : PySem.W.subIn K (.ref C7) (.ref C5) = some false)
    (su8_5 : PySem.W.subIn K (.ref C8) (.ref C5) = some false)
    {xc3 : _}
    (ci3 : PySem.W.clsIn K C3 = some xc3)
    (ti3 : PySem.W.typeIn K (.ref C3) = some (.type "type"))
    (sn3 : PySem.W.subIn K (.type "NoneType") (.ref C3) = some false)
    (su0_3 : PySem.W.subIn K (.ref C0) (.ref C3) = some false)
    (su1_3 : PySem.W.subIn K (.ref C1) (.ref C3) = some false)
    (su2_3 : PySem.W.subIn K (.ref C2) (.ref C3) = some false)
    (su3_3 : PySem.W.subIn K (.ref C3) (.ref C3) = some true)
    (su4_3 : PySem.W.subIn K (.ref C4) (.ref C3) = some false)
    (su5_3 : PySem.W.subIn K (.ref C5) (.ref C3) = some false)
    (su6_3 : PySem.W.subIn K (.ref C6) (.ref C3) = some false)
    (su7_3 : PySem.W.subIn K (.ref C7) (.ref C3) = some false)
    (su8_3 : PySem.W.subIn K (.ref C8) (.ref C3) = some false)
    {xc7 : _}
    (ci7 : PySem.W.clsIn K C7 = some xc7)
    (ti7 : PySem.W.typeIn K (.ref C7) = some (.type "type"))
    (sn7 : PySem.W.subIn K (.type "NoneType") (.ref C7) = some false)
    (su0_7 : PySem.W.subIn K (.ref C0) (.ref C7) = some false)
    (su1_7 : PySem.W.subIn K (.ref C1) (.ref C7) = some false)
    (su2_7 : PySem.W.subIn K (.ref C2) (.ref C7) = some false)
    (su3_7 : PySem.W.subIn K (.ref C3) (.ref C7) = some false)
    (su4_7 : PySem.W.subIn K (.ref C4) (.ref C7) = some false)
    (su5_7 : PySem.W.subIn K (.ref C5) (.ref C7) = some false)
    (su6_7 : PySem.W.subIn K (.ref C6) (.ref C7) = some false)
    (su7_7 : PySem.W.subIn K (.ref C7) (.ref C7) = some true)
    (su8_7 : PySem.W.subIn K (.ref C8) (.ref C7) = some false)
    {f0 : Addr} {od0 an0 : Option Addr} {sl0 : Array (Option Value)} {oc0 kV0 dc0 pm0 cd0 ct0 : Value}
    (mk0 : PySem.W.makesIn K C2 = true)
    (kc0 : PySem.W.keepIn K (.ref C2) = true)
    (a0 : PySem.W.findIn K (.ref C2) "__init__" = some (some (.ref f0)))
    (i0 : PySem.W.isFn K (.ref f0) = true)
    (l0 : K.lookup f0 = some ⟨oc0, od0, .func (PySem.W.fnOf "__init__" "Given.__init__" (defArgs s_Given_init) (defBody s_Given_init) (defScope s_Given_init) .none kV0 dc0 pm0 an0 cd0 ct0), sl0⟩)
    (c0 : PySem.W.codeIn K cd0 "Given.__init__" = true)
    (k0 : PySem.W.keepIn K (.ref f0) = true)
    {f1 : Addr} {od1 an1 : Option Addr} {sl1 : Array (Option Value)} {oc1 kV1 dc1 pm1 cd1 ct1 : Value}
    (mk1 : PySem.W.makesIn K C3 = true)
    (kc1 : PySem.W.keepIn K (.ref C3) = true)
    (a1 : PySem.W.findIn K (.ref C3) "__init__" = some (some (.ref f1)))
    (i1 : PySem.W.isFn K (.ref f1) = true)
    (l1 : K.lookup f1 = some ⟨oc1, od1, .func (PySem.W.fnOf "__init__" "Method.__init__" (defArgs s_Method_init) (defBody s_Method_init) (defScope s_Method_init) .none kV1 dc1 pm1 an1 cd1 ct1), sl1⟩)
    (c1 : PySem.W.codeIn K cd1 "Method.__init__" = true)
    (k1 : PySem.W.keepIn K (.ref f1) = true)
    {f2 : Addr} {od2 an2 : Option Addr} {sl2 : Array (Option Value)} {oc2 kV2 dc2 pm2 cd2 ct2 : Value}
    (mk2 : PySem.W.makesIn K C4 = true)
    (kc2 : PySem.W.keepIn K (.ref C4) = true)
    (a2 : PySem.W.findIn K (.ref C4) "__init__" = some (some (.ref f2)))
    (i2 : PySem.W.isFn K (.ref f2) = true)
    (l2 : K.lookup f2 = some ⟨oc2, od2, .func (PySem.W.fnOf "__init__" "Kind.__init__" (defArgs s_Kind_init) (defBody s_Kind_init) (defScope s_Kind_init) .none kV2 dc2 pm2 an2 cd2 ct2), sl2⟩)
    (c2 : PySem.W.codeIn K cd2 "Kind.__init__" = true)
    (k2 : PySem.W.keepIn K (.ref f2) = true)
    {f3 : Addr} {od3 an3 : Option Addr} {sl3 : Array (Option Value)} {oc3 kV3 dc3 pm3 cd3 ct3 : Value}
    (mk3 : PySem.W.makesIn K C5 = true)
    (kc3 : PySem.W.keepIn K (.ref C5) = true)
    (a3 : PySem.W.findIn K (.ref C5) "__init__" = some (some (.ref f3)))
    (i3 : PySem.W.isFn K (.ref f3) = true)
    (l3 : K.lookup f3 = some ⟨oc3, od3, .func (PySem.W.fnOf "__init__" "Made.__init__" (defArgs s_Made_init) (defBody s_Made_init) (defScope s_Made_init) .none kV3 dc3 pm3 an3 cd3 ct3), sl3⟩)
    (c3 : PySem.W.codeIn K cd3 "Made.__init__" = true)
    (k3 : PySem.W.keepIn K (.ref f3) = true)
    {f4 : Addr} {od4 an4 : Option Addr} {sl4 : Array (Option Value)} {oc4 kV4 dc4 pm4 cd4 ct4 : Value}
    (mk4 : PySem.W.makesIn K C6 = true)
    (kc4 : PySem.W.keepIn K (.ref C6) = true)
    (a4 : PySem.W.findIn K (.ref C6) "__init__" = some (some (.ref f4)))
    (i4 : PySem.W.isFn K (.ref f4) = true)
    (l4 : K.lookup f4 = some ⟨oc4, od4, .func (PySem.W.fnOf "__init__" "Giver.__init__" (defArgs s_Giver_init) (defBody s_Giver_init) (defScope s_Giver_init) .none kV4 dc4 pm4 an4 cd4 ct4), sl4⟩)
    (c4 : PySem.W.codeIn K cd4 "Giver.__init__" = true)
    (k4 : PySem.W.keepIn K (.ref f4) = true)
    {f5 : Addr} {od5 an5 : Option Addr} {sl5 : Array (Option Value)} {oc5 kV5 dc5 pm5 cd5 ct5 : Value}
    (mk5 : PySem.W.makesIn K C7 = true)
    (kc5 : PySem.W.keepIn K (.ref C7) = true)
    (a5 : PySem.W.findIn K (.ref C7) "__init__" = some (some (.ref f5)))
    (i5 : PySem.W.isFn K (.ref f5) = true)
    (l5 : K.lookup f5 = some ⟨oc5, od5, .func (PySem.W.fnOf "__init__" "View.__init__" (defArgs s_View_init) (defBody s_View_init) (defScope s_View_init) .none kV5 dc5 pm5 an5 cd5 ct5), sl5⟩)
    (c5 : PySem.W.codeIn K cd5 "View.__init__" = true)
    (k5 : PySem.W.keepIn K (.ref f5) = true)
    {f6 : Addr} {od6 an6 : Option Addr} {sl6 : Array (Option Value)} {oc6 kV6 dc6 pm6 cd6 ct6 : Value}
    (a6 : PySem.W.nsIn K mainGlobals "put_record" = some (some (.ref f6)))
    (l6 : K.lookup f6 = some ⟨oc6, od6, .func (PySem.W.fnOf "put_record" "put_record" (defArgs s_put_record) (defBody s_put_record) (defScope s_put_record) .none kV6 dc6 pm6 an6 cd6 ct6), sl6⟩)
    (c6 : PySem.W.codeIn K cd6 "put_record" = true)
    (k6 : PySem.W.keepIn K (.ref f6) = true)
    {f7 : Addr} {od7 an7 : Option Addr} {sl7 : Array (Option Value)} {oc7 kV7 dc7 pm7 cd7 ct7 : Value}
    (a7 : PySem.W.nsIn K mainGlobals "record_of" = some (some (.ref f7)))
    (l7 : K.lookup f7 = some ⟨oc7, od7, .func (PySem.W.fnOf "record_of" "record_of" (defArgs s_record_of) (defBody s_record_of) (defScope s_record_of) .none kV7 dc7 pm7 an7 cd7 ct7), sl7⟩)
    (c7 : PySem.W.codeIn K cd7 "record_of" = true)
    (k7 : PySem.W.keepIn K (.ref f7) = true)
    {f8 : Addr} {od8 an8 : Option Addr} {sl8 : Array (Option Value)} {oc8 kV8 dc8 pm8 cd8 ct8 : Value}
    (mk8 : PySem.W.makesIn K C8 = true)
    (kc8 : PySem.W.keepIn K (.ref C8) = true)
    (a8 : PySem.W.findIn K (.ref C8) "__init__" = some (some (.ref f8)))
    (i8 : PySem.W.isFn K (.ref f8) = true)
    (l8 : K.lookup f8 = some ⟨oc8, od8, .func (PySem.W.fnOf "__init__" "World.__init__" (defArgs s_World_init) (defBody s_World_init) (defScope s_World_init) .none kV8 dc8 pm8 an8 cd8 ct8), sl8⟩)
    (c8 : PySem.W.codeIn K cd8 "World.__init__" = true)
    (k8 : PySem.W.keepIn K (.ref f8) = true)
    {f9 : Addr} {od9 an9 : Option Addr} {sl9 : Array (Option Value)} {oc9 kV9 dc9 pm9 cd9 ct9 : Value}
    (a9 : PySem.W.nsIn K mainGlobals "known" = some (some (.ref f9)))
    (l9 : K.lookup f9 = some ⟨oc9, od9, .func (PySem.W.fnOf "known" "known" (defArgs s_known) (defBody s_known) (defScope s_known) .none kV9 dc9 pm9 an9 cd9 ct9), sl9⟩)
    (c9 : PySem.W.codeIn K cd9 "known" = true)
    (k9 : PySem.W.keepIn K (.ref f9) = true)
    {f10 : Addr} {od10 an10 : Option Addr} {sl10 : Array (Option Value)} {oc10 kV10 dc10 pm10 cd10 ct10 : Value}
    (a10 : PySem.W.nsIn K mainGlobals "giver" = some (some (.ref f10)))
    (l10 : K.lookup f10 = some ⟨oc10, od10, .func (PySem.W.fnOf "giver" "giver" (defArgs s_giver) (defBody s_giver) (defScope s_giver) .none kV10 dc10 pm10 an10 cd10 ct10), sl10⟩)
    (c10 : PySem.W.codeIn K cd10 "giver" = true)
    (k10 : PySem.W.keepIn K (.ref f10) = true)
    {f11 : Addr} {od11 an11 : Option Addr} {sl11 : Array (Option Value)} {oc11 kV11 dc11 pm11 cd11 ct11 : Value}
    (a11 : PySem.W.nsIn K mainGlobals "is_giver" = some (some (.ref f11)))
    (l11 : K.lookup f11 = some ⟨oc11, od11, .func (PySem.W.fnOf "is_giver" "is_giver" (defArgs s_is_giver) (defBody s_is_giver) (defScope s_is_giver) .none kV11 dc11 pm11 an11 cd11 ct11), sl11⟩)
    (c11 : PySem.W.codeIn K cd11 "is_giver" = true)
    (k11 : PySem.W.keepIn K (.ref f11) = true)
    {f12 : Addr} {od12 an12 : Option Addr} {sl12 : Array (Option Value)} {oc12 kV12 dc12 pm12 cd12 ct12 : Value}
    (a12 : PySem.W.nsIn K mainGlobals "frame_of" = some (some (.ref f12)))
    (l12 : K.lookup f12 = some ⟨oc12, od12, .func (PySem.W.fnOf "frame_of" "frame_of" (defArgs s_frame_of) (defBody s_frame_of) (defScope s_frame_of) .none kV12 dc12 pm12 an12 cd12 ct12), sl12⟩)
    (c12 : PySem.W.codeIn K cd12 "frame_of" = true)
    (k12 : PySem.W.keepIn K (.ref f12) = true)
    {f13 : Addr} {od13 an13 : Option Addr} {sl13 : Array (Option Value)} {oc13 kV13 dc13 pm13 cd13 ct13 : Value}
    (a13 : PySem.W.nsIn K mainGlobals "state_of" = some (some (.ref f13)))
    (l13 : K.lookup f13 = some ⟨oc13, od13, .func (PySem.W.fnOf "state_of" "state_of" (defArgs s_state_of) (defBody s_state_of) (defScope s_state_of) .none kV13 dc13 pm13 an13 cd13 ct13), sl13⟩)
    (c13 : PySem.W.codeIn K cd13 "state_of" = true)
    (k13 : PySem.W.keepIn K (.ref f13) = true)
    {f14 : Addr} {od14 an14 : Option Addr} {sl14 : Array (Option Value)} {oc14 kV14 dc14 pm14 cd14 ct14 : Value}
    (a14 : PySem.W.nsIn K mainGlobals "set_state" = some (some (.ref f14)))
    (l14 : K.lookup f14 = some ⟨oc14, od14, .func (PySem.W.fnOf "set_state" "set_state" (defArgs s_set_state) (defBody s_set_state) (defScope s_set_state) .none kV14 dc14 pm14 an14 cd14 ct14), sl14⟩)
    (c14 : PySem.W.codeIn K cd14 "set_state" = true)
    (k14 : PySem.W.keepIn K (.ref f14) = true)
    {f15 : Addr} {od15 an15 : Option Addr} {sl15 : Array (Option Value)} {oc15 kV15 dc15 pm15 cd15 ct15 : Value}
    (a15 : PySem.W.nsIn K mainGlobals "is_under" = some (some (.ref f15)))
    (l15 : K.lookup f15 = some ⟨oc15, od15, .func (PySem.W.fnOf "is_under" "is_under" (defArgs s_is_under) (defBody s_is_under) (defScope s_is_under) .none kV15 dc15 pm15 an15 cd15 ct15), sl15⟩)
    (c15 : PySem.W.codeIn K cd15 "is_under" = true)
    (k15 : PySem.W.keepIn K (.ref f15) = true)
    {f16 : Addr} {od16 an16 : Option Addr} {sl16 : Array (Option Value)} {oc16 kV16 dc16 pm16 cd16 ct16 : Value}
    (a16 : PySem.W.nsIn K mainGlobals "is_fault_class" = some (some (.ref f16)))
    (l16 : K.lookup f16 = some ⟨oc16, od16, .func (PySem.W.fnOf "is_fault_class" "is_fault_class" (defArgs s_is_fault_class) (defBody s_is_fault_class) (defScope s_is_fault_class) .none kV16 dc16 pm16 an16 cd16 ct16), sl16⟩)
    (c16 : PySem.W.codeIn K cd16 "is_fault_class" = true)
    (k16 : PySem.W.keepIn K (.ref f16) = true)
    {f17 : Addr} {od17 an17 : Option Addr} {sl17 : Array (Option Value)} {oc17 kV17 dc17 pm17 cd17 ct17 : Value}
    (a17 : PySem.W.nsIn K mainGlobals "is_fault" = some (some (.ref f17)))
    (l17 : K.lookup f17 = some ⟨oc17, od17, .func (PySem.W.fnOf "is_fault" "is_fault" (defArgs s_is_fault) (defBody s_is_fault) (defScope s_is_fault) .none kV17 dc17 pm17 an17 cd17 ct17), sl17⟩)
    (c17 : PySem.W.codeIn K cd17 "is_fault" = true)
    (k17 : PySem.W.keepIn K (.ref f17) = true)
    {f18 : Addr} {od18 an18 : Option Addr} {sl18 : Array (Option Value)} {oc18 kV18 dc18 pm18 cd18 ct18 : Value}
    (a18 : PySem.W.nsIn K mainGlobals "new_object" = some (some (.ref f18)))
    (l18 : K.lookup f18 = some ⟨oc18, od18, .func (PySem.W.fnOf "new_object" "new_object" (defArgs s_new_object) (defBody s_new_object) (defScope s_new_object) .none kV18 dc18 pm18 an18 cd18 ct18), sl18⟩)
    (c18 : PySem.W.codeIn K cd18 "new_object" = true)
    (k18 : PySem.W.keepIn K (.ref f18) = true)
    {f19 : Addr} {od19 an19 : Option Addr} {sl19 : Array (Option Value)} {oc19 kV19 dc19 pm19 cd19 ct19 : Value}
    {T19 : Addr} {oT19 : Option Addr} {sT19 : Array (Option Value)} {cT19 : Value} {mT19 : Nat}
    (a19 : PySem.W.nsIn K mainGlobals "made" = some (some (.ref f19)))
    (l19 : K.lookup f19 = some ⟨oc19, od19, .func (PySem.W.fnOf "made" "made" (defArgs s_made) (defBody s_made) (defScope s_made) (.ref T19) kV19 dc19 pm19 an19 cd19 ct19), sl19⟩)
    (lT19 : K.lookup T19 = some ⟨cT19, oT19, .seq #[.none] mT19, sT19⟩)
    (c19 : PySem.W.codeIn K cd19 "made" = true)
    (k19 : PySem.W.keepIn K (.ref f19) = true)
    {f20 : Addr} {od20 an20 : Option Addr} {sl20 : Array (Option Value)} {oc20 kV20 dc20 pm20 cd20 ct20 : Value}
    (a20 : PySem.W.nsIn K mainGlobals "found_in" = some (some (.ref f20)))
    (l20 : K.lookup f20 = some ⟨oc20, od20, .func (PySem.W.fnOf "found_in" "found_in" (defArgs s_found_in) (defBody s_found_in) (defScope s_found_in) .none kV20 dc20 pm20 an20 cd20 ct20), sl20⟩)
    (c20 : PySem.W.codeIn K cd20 "found_in" = true)
    (k20 : PySem.W.keepIn K (.ref f20) = true)
    {f21 : Addr} {od21 an21 : Option Addr} {sl21 : Array (Option Value)} {oc21 kV21 dc21 pm21 cd21 ct21 : Value}
    (a21 : PySem.W.nsIn K mainGlobals "by_way_of" = some (some (.ref f21)))
    (l21 : K.lookup f21 = some ⟨oc21, od21, .func (PySem.W.fnOf "by_way_of" "by_way_of" (defArgs s_by_way_of) (defBody s_by_way_of) (defScope s_by_way_of) .none kV21 dc21 pm21 an21 cd21 ct21), sl21⟩)
    (c21 : PySem.W.codeIn K cd21 "by_way_of" = true)
    (k21 : PySem.W.keepIn K (.ref f21) = true)
    {f22 : Addr} {od22 an22 : Option Addr} {sl22 : Array (Option Value)} {oc22 kV22 dc22 pm22 cd22 ct22 : Value}
    (a22 : PySem.W.nsIn K mainGlobals "field_of" = some (some (.ref f22)))
    (l22 : K.lookup f22 = some ⟨oc22, od22, .func (PySem.W.fnOf "field_of" "field_of" (defArgs s_field_of) (defBody s_field_of) (defScope s_field_of) .none kV22 dc22 pm22 an22 cd22 ct22), sl22⟩)
    (c22 : PySem.W.codeIn K cd22 "field_of" = true)
    (k22 : PySem.W.keepIn K (.ref f22) = true)
    {f23 : Addr} {od23 an23 : Option Addr} {sl23 : Array (Option Value)} {oc23 kV23 dc23 pm23 cd23 ct23 : Value}
    (a23 : PySem.W.nsIn K mainGlobals "text_of" = some (some (.ref f23)))
    (l23 : K.lookup f23 = some ⟨oc23, od23, .func (PySem.W.fnOf "text_of" "text_of" (defArgs s_text_of) (defBody s_text_of) (defScope s_text_of) .none kV23 dc23 pm23 an23 cd23 ct23), sl23⟩)
    (c23 : PySem.W.codeIn K cd23 "text_of" = true)
    (k23 : PySem.W.keepIn K (.ref f23) = true)
    {f24 : Addr} {od24 an24 : Option Addr} {sl24 : Array (Option Value)} {oc24 kV24 dc24 pm24 cd24 ct24 : Value}
    (a24 : PySem.W.nsIn K mainGlobals "entered" = some (some (.ref f24)))
    (l24 : K.lookup f24 = some ⟨oc24, od24, .func (PySem.W.fnOf "entered" "entered" (defArgs s_entered) (defBody s_entered) (defScope s_entered) .none kV24 dc24 pm24 an24 cd24 ct24), sl24⟩)
    (c24 : PySem.W.codeIn K cd24 "entered" = true)
    (k24 : PySem.W.keepIn K (.ref f24) = true)
    {f25 : Addr} {od25 an25 : Option Addr} {sl25 : Array (Option Value)} {oc25 kV25 dc25 pm25 cd25 ct25 : Value}
    (a25 : PySem.W.nsIn K mainGlobals "begun_object" = some (some (.ref f25)))
    (l25 : K.lookup f25 = some ⟨oc25, od25, .func (PySem.W.fnOf "begun_object" "begun_object" (defArgs s_begun_object) (defBody s_begun_object) (defScope s_begun_object) .none kV25 dc25 pm25 an25 cd25 ct25), sl25⟩)
    (c25 : PySem.W.codeIn K cd25 "begun_object" = true)
    (k25 : PySem.W.keepIn K (.ref f25) = true)
    {f26 : Addr} {od26 an26 : Option Addr} {sl26 : Array (Option Value)} {oc26 kV26 dc26 pm26 cd26 ct26 : Value}
    (a26 : PySem.W.nsIn K mainGlobals "next_input" = some (some (.ref f26)))
    (l26 : K.lookup f26 = some ⟨oc26, od26, .func (PySem.W.fnOf "next_input" "next_input" (defArgs s_next_input) (defBody s_next_input) (defScope s_next_input) .none kV26 dc26 pm26 an26 cd26 ct26), sl26⟩)
    (c26 : PySem.W.codeIn K cd26 "next_input" = true)
    (k26 : PySem.W.keepIn K (.ref f26) = true)
    {f27 : Addr} {od27 an27 : Option Addr} {sl27 : Array (Option Value)} {oc27 kV27 dc27 pm27 cd27 ct27 : Value}
    (a27 : PySem.W.nsIn K mainGlobals "is_of" = some (some (.ref f27)))
    (l27 : K.lookup f27 = some ⟨oc27, od27, .func (PySem.W.fnOf "is_of" "is_of" (defArgs s_is_of) (defBody s_is_of) (defScope s_is_of) .none kV27 dc27 pm27 an27 cd27 ct27), sl27⟩)
    (c27 : PySem.W.codeIn K cd27 "is_of" = true)
    (k27 : PySem.W.keepIn K (.ref f27) = true)
    {f28 : Addr} {od28 an28 : Option Addr} {sl28 : Array (Option Value)} {oc28 kV28 dc28 pm28 cd28 ct28 : Value}
    (a28 : PySem.W.nsIn K mainGlobals "view_made" = some (some (.ref f28)))
    (l28 : K.lookup f28 = some ⟨oc28, od28, .func (PySem.W.fnOf "view_made" "view_made" (defArgs s_view_made) (defBody s_view_made) (defScope s_view_made) .none kV28 dc28 pm28 an28 cd28 ct28), sl28⟩)
    (c28 : PySem.W.codeIn K cd28 "view_made" = true)
    (k28 : PySem.W.keepIn K (.ref f28) = true)
    {f29 : Addr} {od29 an29 : Option Addr} {sl29 : Array (Option Value)} {oc29 kV29 dc29 pm29 cd29 ct29 : Value}
    (a29 : PySem.W.nsIn K mainGlobals "count_giver" = some (some (.ref f29)))
    (l29 : K.lookup f29 = some ⟨oc29, od29, .func (PySem.W.fnOf "count_giver" "count_giver" (defArgs s_count_giver) (defBody s_count_giver) (defScope s_count_giver) .none kV29 dc29 pm29 an29 cd29 ct29), sl29⟩)
    (c29 : PySem.W.codeIn K cd29 "count_giver" = true)
    (k29 : PySem.W.keepIn K (.ref f29) = true)
    {f30 : Addr} {od30 an30 : Option Addr} {sl30 : Array (Option Value)} {oc30 kV30 dc30 pm30 cd30 ct30 : Value}
    (a30 : PySem.W.nsIn K mainGlobals "gone_on" = some (some (.ref f30)))
    (l30 : K.lookup f30 = some ⟨oc30, od30, .func (PySem.W.fnOf "gone_on" "gone_on" (defArgs s_gone_on) (defBody s_gone_on) (defScope s_gone_on) .none kV30 dc30 pm30 an30 cd30 ct30), sl30⟩)
    (c30 : PySem.W.codeIn K cd30 "gone_on" = true)
    (k30 : PySem.W.keepIn K (.ref f30) = true)
    {f31 : Addr} {od31 an31 : Option Addr} {sl31 : Array (Option Value)} {oc31 kV31 dc31 pm31 cd31 ct31 : Value}
    (a31 : PySem.W.nsIn K mainGlobals "thrown" = some (some (.ref f31)))
    (l31 : K.lookup f31 = some ⟨oc31, od31, .func (PySem.W.fnOf "thrown" "thrown" (defArgs s_thrown) (defBody s_thrown) (defScope s_thrown) .none kV31 dc31 pm31 an31 cd31 ct31), sl31⟩)
    (c31 : PySem.W.codeIn K cd31 "thrown" = true)
    (k31 : PySem.W.keepIn K (.ref f31) = true)
    {f32 : Addr} {od32 an32 : Option Addr} {sl32 : Array (Option Value)} {oc32 kV32 dc32 pm32 cd32 ct32 : Value}
    (a32 : PySem.W.nsIn K mainGlobals "shut_down" = some (some (.ref f32)))
    (l32 : K.lookup f32 = some ⟨oc32, od32, .func (PySem.W.fnOf "shut_down" "shut_down" (defArgs s_shut_down) (defBody s_shut_down) (defScope s_shut_down) .none kV32 dc32 pm32 an32 cd32 ct32), sl32⟩)
    (c32 : PySem.W.codeIn K cd32 "shut_down" = true)
    (k32 : PySem.W.keepIn K (.ref f32) = true)
    {f33 : Addr} {od33 an33 : Option Addr} {sl33 : Array (Option Value)} {oc33 kV33 dc33 pm33 cd33 ct33 : Value}
    (a33 : PySem.W.nsIn K mainGlobals "called_giver" = some (some (.ref f33)))
    (l33 : K.lookup f33 = some ⟨oc33, od33, .func (PySem.W.fnOf "called_giver" "called_giver" (defArgs s_called_giver) (defBody s_called_giver) (defScope s_called_giver) .none kV33 dc33 pm33 an33 cd33 ct33), sl33⟩)
    (c33 : PySem.W.codeIn K cd33 "called_giver" = true)
    (k33 : PySem.W.keepIn K (.ref f33) = true)
    {f34 : Addr} {od34 an34 : Option Addr} {sl34 : Array (Option Value)} {oc34 kV34 dc34 pm34 cd34 ct34 : Value}
    (a34 : PySem.W.nsIn K mainGlobals "called_given" = some (some (.ref f34)))
    (l34 : K.lookup f34 = some ⟨oc34, od34, .func (PySem.W.fnOf "called_given" "called_given" (defArgs s_called_given) (defBody s_called_given) (defScope s_called_given) .none kV34 dc34 pm34 an34 cd34 ct34), sl34⟩)
    (c34 : PySem.W.codeIn K cd34 "called_given" = true)
    (k34 : PySem.W.keepIn K (.ref f34) = true)
    {f35 : Addr} {od35 an35 : Option Addr} {sl35 : Array (Option Value)} {oc35 kV35 dc35 pm35 cd35 ct35 : Value}
    (a35 : PySem.W.nsIn K mainGlobals "called" = some (some (.ref f35)))
    (l35 : K.lookup f35 = some ⟨oc35, od35, .func (PySem.W.fnOf "called" "called" (defArgs s_called) (defBody s_called) (defScope s_called) .none kV35 dc35 pm35 an35 cd35 ct35), sl35⟩)
    (c35 : PySem.W.codeIn K cd35 "called" = true)
    (k35 : PySem.W.keepIn K (.ref f35) = true)
    {f36 : Addr} {od36 an36 : Option Addr} {sl36 : Array (Option Value)} {oc36 kV36 dc36 pm36 cd36 ct36 : Value}
    (a36 : PySem.W.nsIn K mainGlobals "asked" = some (some (.ref f36)))
    (l36 : K.lookup f36 = some ⟨oc36, od36, .func (PySem.W.fnOf "asked" "asked" (defArgs s_asked) (defBody s_asked) (defScope s_asked) .none kV36 dc36 pm36 an36 cd36 ct36), sl36⟩)
    (c36 : PySem.W.codeIn K cd36 "asked" = true)
    (k36 : PySem.W.keepIn K (.ref f36) = true)
    {f37 : Addr} {od37 an37 : Option Addr} {sl37 : Array (Option Value)} {oc37 kV37 dc37 pm37 cd37 ct37 : Value}
    (a37 : PySem.W.nsIn K mainGlobals "counted_on" = some (some (.ref f37)))
    (l37 : K.lookup f37 = some ⟨oc37, od37, .func (PySem.W.fnOf "counted_on" "counted_on" (defArgs s_counted_on) (defBody s_counted_on) (defScope s_counted_on) .none kV37 dc37 pm37 an37 cd37 ct37), sl37⟩)
    (c37 : PySem.W.codeIn K cd37 "counted_on" = true)
    (k37 : PySem.W.keepIn K (.ref f37) = true)
    {f38 : Addr} {od38 an38 : Option Addr} {sl38 : Array (Option Value)} {oc38 kV38 dc38 pm38 cd38 ct38 : Value}
    (a38 : PySem.W.nsIn K mainGlobals "_law_cell_at" = some (some (.ref f38)))
    (l38 : K.lookup f38 = some ⟨oc38, od38, .func (PySem.W.fnOf "_law_cell_at" "_law_cell_at" (defArgs s_l_cell_at) (defBody s_l_cell_at) (defScope s_l_cell_at) .none kV38 dc38 pm38 an38 cd38 ct38), sl38⟩)
    (c38 : PySem.W.codeIn K cd38 "_law_cell_at" = true)
    (k38 : PySem.W.keepIn K (.ref f38) = true)
    {f39 : Addr} {od39 an39 : Option Addr} {sl39 : Array (Option Value)} {oc39 kV39 dc39 pm39 cd39 ct39 : Value}
    (a39 : PySem.W.nsIn K mainGlobals "_law_cell" = some (some (.ref f39)))
    (l39 : K.lookup f39 = some ⟨oc39, od39, .func (PySem.W.fnOf "_law_cell" "_law_cell" (defArgs s_l_cell) (defBody s_l_cell) (defScope s_l_cell) .none kV39 dc39 pm39 an39 cd39 ct39), sl39⟩)
    (c39 : PySem.W.codeIn K cd39 "_law_cell" = true)
    (k39 : PySem.W.keepIn K (.ref f39) = true)
    {f40 : Addr} {od40 an40 : Option Addr} {sl40 : Array (Option Value)} {oc40 kV40 dc40 pm40 cd40 ct40 : Value}
    (a40 : PySem.W.nsIn K mainGlobals "_law_plain" = some (some (.ref f40)))
    (l40 : K.lookup f40 = some ⟨oc40, od40, .func (PySem.W.fnOf "_law_plain" "_law_plain" (defArgs s_l_plain) (defBody s_l_plain) (defScope s_l_plain) .none kV40 dc40 pm40 an40 cd40 ct40), sl40⟩)
    (c40 : PySem.W.codeIn K cd40 "_law_plain" = true)
    (k40 : PySem.W.keepIn K (.ref f40) = true)
    {f41 : Addr} {od41 an41 : Option Addr} {sl41 : Array (Option Value)} {oc41 kV41 dc41 pm41 cd41 ct41 : Value}
    (a41 : PySem.W.nsIn K mainGlobals "_law_wrong" = some (some (.ref f41)))
    (l41 : K.lookup f41 = some ⟨oc41, od41, .func (PySem.W.fnOf "_law_wrong" "_law_wrong" (defArgs s_l_wrong) (defBody s_l_wrong) (defScope s_l_wrong) .none kV41 dc41 pm41 an41 cd41 ct41), sl41⟩)
    (c41 : PySem.W.codeIn K cd41 "_law_wrong" = true)
    (k41 : PySem.W.keepIn K (.ref f41) = true)
    {f42 : Addr} {od42 an42 : Option Addr} {sl42 : Array (Option Value)} {oc42 kV42 dc42 pm42 cd42 ct42 : Value}
    (a42 : PySem.W.nsIn K mainGlobals "_law_go" = some (some (.ref f42)))
    (l42 : K.lookup f42 = some ⟨oc42, od42, .func (PySem.W.fnOf "_law_go" "_law_go" (defArgs s_l_go) (defBody s_l_go) (defScope s_l_go) .none kV42 dc42 pm42 an42 cd42 ct42), sl42⟩)
    (c42 : PySem.W.codeIn K cd42 "_law_go" = true)
    (k42 : PySem.W.keepIn K (.ref f42) = true)
    {f43 : Addr} {od43 an43 : Option Addr} {sl43 : Array (Option Value)} {oc43 kV43 dc43 pm43 cd43 ct43 : Value}
    (a43 : PySem.W.nsIn K mainGlobals "_law_counted" = some (some (.ref f43)))
    (l43 : K.lookup f43 = some ⟨oc43, od43, .func (PySem.W.fnOf "_law_counted" "_law_counted" (defArgs s_l_counted) (defBody s_l_counted) (defScope s_l_counted) .none kV43 dc43 pm43 an43 cd43 ct43), sl43⟩)
    (c43 : PySem.W.codeIn K cd43 "_law_counted" = true)
    (k43 : PySem.W.keepIn K (.ref f43) = true)
    {f44 : Addr} {od44 an44 : Option Addr} {sl44 : Array (Option Value)} {oc44 kV44 dc44 pm44 cd44 ct44 : Value}
    (a44 : PySem.W.nsIn K mainGlobals "_law_goes_on" = some (some (.ref f44)))
    (l44 : K.lookup f44 = some ⟨oc44, od44, .func (PySem.W.fnOf "_law_goes_on" "_law_goes_on" (defArgs s_l_goes_on) (defBody s_l_goes_on) (defScope s_l_goes_on) .none kV44 dc44 pm44 an44 cd44 ct44), sl44⟩)
    (c44 : PySem.W.codeIn K cd44 "_law_goes_on" = true)
    (k44 : PySem.W.keepIn K (.ref f44) = true)
    {f45 : Addr} {od45 an45 : Option Addr} {sl45 : Array (Option Value)} {oc45 kV45 dc45 pm45 cd45 ct45 : Value}
    (a45 : PySem.W.nsIn K mainGlobals "_law_thrown" = some (some (.ref f45)))
    (l45 : K.lookup f45 = some ⟨oc45, od45, .func (PySem.W.fnOf "_law_thrown" "_law_thrown" (defArgs s_l_thrown) (defBody s_l_thrown) (defScope s_l_thrown) .none kV45 dc45 pm45 an45 cd45 ct45), sl45⟩)
    (c45 : PySem.W.codeIn K cd45 "_law_thrown" = true)
    (k45 : PySem.W.keepIn K (.ref f45) = true)
    {f46 : Addr} {od46 an46 : Option Addr} {sl46 : Array (Option Value)} {oc46 kV46 dc46 pm46 cd46 ct46 : Value}
    (a46 : PySem.W.nsIn K mainGlobals "_law_shut" = some (some (.ref f46)))
    (l46 : K.lookup f46 = some ⟨oc46, od46, .func (PySem.W.fnOf "_law_shut" "_law_shut" (defArgs s_l_shut) (defBody s_l_shut) (defScope s_l_shut) .none kV46 dc46 pm46 an46 cd46 ct46), sl46⟩)
    (c46 : PySem.W.codeIn K cd46 "_law_shut" = true)
    (k46 : PySem.W.keepIn K (.ref f46) = true)
    {f47 : Addr} {od47 an47 : Option Addr} {sl47 : Array (Option Value)} {oc47 kV47 dc47 pm47 cd47 ct47 : Value}
    (a47 : PySem.W.nsIn K mainGlobals "_law_deed" = some (some (.ref f47)))
    (l47 : K.lookup f47 = some ⟨oc47, od47, .func (PySem.W.fnOf "_law_deed" "_law_deed" (defArgs s_l_deed) (defBody s_l_deed) (defScope s_l_deed) .none kV47 dc47 pm47 an47 cd47 ct47), sl47⟩)
    (c47 : PySem.W.codeIn K cd47 "_law_deed" = true)
    (k47 : PySem.W.keepIn K (.ref f47) = true)
    {f48 : Addr} {od48 an48 : Option Addr} {sl48 : Array (Option Value)} {oc48 kV48 dc48 pm48 cd48 ct48 : Value}
    (a48 : PySem.W.nsIn K mainGlobals "_law_far_right" = some (some (.ref f48)))
    (l48 : K.lookup f48 = some ⟨oc48, od48, .func (PySem.W.fnOf "_law_far_right" "_law_far_right" (defArgs s_l_far_right) (defBody s_l_far_right) (defScope s_l_far_right) .none kV48 dc48 pm48 an48 cd48 ct48), sl48⟩)
    (c48 : PySem.W.codeIn K cd48 "_law_far_right" = true)
    (k48 : PySem.W.keepIn K (.ref f48) = true)
    {f49 : Addr} {od49 an49 : Option Addr} {sl49 : Array (Option Value)} {oc49 kV49 dc49 pm49 cd49 ct49 : Value}
    (a49 : PySem.W.nsIn K mainGlobals "law" = some (some (.ref f49)))
    (l49 : K.lookup f49 = some ⟨oc49, od49, .func (PySem.W.fnOf "law" "law" (defArgs s_law) (defBody s_law) (defScope s_law) .none kV49 dc49 pm49 an49 cd49 ct49), sl49⟩)
    (c49 : PySem.W.codeIn K cd49 "law" = true)
    (k49 : PySem.W.keepIn K (.ref f49) = true)
    {da_COUNTS : Addr} {es_COUNTS : Array DictEntry} {dn_COUNTS : Nat}
    (n_COUNTS : PySem.W.nsIn K mainGlobals "COUNTS" = some (some (.ref da_COUNTS)))
    (dl_COUNTS : K.lookup da_COUNTS = some ⟨.type "dict", none, .dict es_COUNTS dn_COUNTS, #[]⟩)
    (dk_COUNTS : PySem.W.KeysLit w.params es_COUNTS.toList)
    {ka1 : Addr} {ko1 : Option Addr} {kn1 : Nat} {ks1 : Array (Option Value)}
    {kt2 : Tok}
    {kt3 : Tok}
    {ka4 : Addr} {ko4 : Option Addr} {kn4 : Nat} {ks4 : Array (Option Value)}
    {kt5 : Tok}
    {kt6 : Tok}
    {ka7 : Addr} {ko7 : Option Addr} {kn7 : Nat} {ks7 : Array (Option Value)}
    {kt8 : Tok}
    {kt9 : Tok}
    {ka10 : Addr} {ko10 : Option Addr} {kn10 : Nat} {ks10 : Array (Option Value)}
    {kt11 : Tok}
    {kt12 : Tok}
    {ka13 : Addr} {ko13 : Option Addr} {kn13 : Nat} {ks13 : Array (Option Value)}
    {kt14 : Tok}
    {kt15 : Tok}
    {ka16 : Addr} {ko16 : Option Addr} {kn16 : Nat} {ks16 : Array (Option Value)}
    {kt17 : Tok}
    {kt18 : Tok}
    {ka19 : Addr} {ko19 : Option Addr} {kn19 : Nat} {ks19 : Array (Option Value)}
    {kt20 : Tok}
    {kt21 : Tok}
    {ka22 : Addr} {ko22 : Option Addr} {kn22 : Nat} {ks22 : Array (Option Value)}
    {kt23 : Tok}
    {kt24 : Tok}
    (de_COUNTS_7 : PySem.W.nsIn K da_COUNTS "shut" = some (some (.ref ka1)))
    (de_COUNTS_6 : PySem.W.nsIn K da_COUNTS "throw" = some (some (.ref ka4)))
    (de_COUNTS_5 : PySem.W.nsIn K da_COUNTS "go" = some (some (.ref ka7)))
    (de_COUNTS_4 : PySem.W.nsIn K da_COUNTS "count" = some (some (.ref ka10)))
    (de_COUNTS_3 : PySem.W.nsIn K da_COUNTS "elder" = some (some (.ref ka13)))
    (de_COUNTS_2 : PySem.W.nsIn K da_COUNTS "isa" = some (some (.ref ka16)))
    (de_COUNTS_1 : PySem.W.nsIn K da_COUNTS "take" = some (some (.ref ka19)))
    (de_COUNTS_0 : PySem.W.nsIn K da_COUNTS "say" = some (some (.ref ka22)))
    (kl1 : K.lookup ka1 = some ⟨.type "tuple", ko1, .seq #[.int 1 kt2, .int 1 kt3] kn1, ks1⟩)
    (kl4 : K.lookup ka4 = some ⟨.type "tuple", ko4, .seq #[.int 2 kt5, .int 2 kt6] kn4, ks4⟩)
    (kl7 : K.lookup ka7 = some ⟨.type "tuple", ko7, .seq #[.int 1 kt8, .int 2 kt9] kn7, ks7⟩)
    (kl10 : K.lookup ka10 = some ⟨.type "tuple", ko10, .seq #[.int 1 kt11, .int 1 kt12] kn10, ks10⟩)
    (kl13 : K.lookup ka13 = some ⟨.type "tuple", ko13, .seq #[.int 2 kt14, .int 2 kt15] kn13, ks13⟩)
    (kl16 : K.lookup ka16 = some ⟨.type "tuple", ko16, .seq #[.int 2 kt17, .int 2 kt18] kn16, ks16⟩)
    (kl19 : K.lookup ka19 = some ⟨.type "tuple", ko19, .seq #[.int 0 kt20, .int 0 kt21] kn19, ks19⟩)
    (kl22 : K.lookup ka22 = some ⟨.type "tuple", ko22, .seq #[.int 1 kt23, .int 1 kt24] kn22, ks22⟩)
    {ka25 : Addr} {ko25 : Option Addr} {kn25 : Nat} {ks25 : Array (Option Value)}
    {kt26 : Tok}
    {kt27 : Tok}
    (n_ENDED : PySem.W.nsIn K mainGlobals "ENDED" = some (some (.ref ka25)))
    (kl25 : K.lookup ka25 = some ⟨.type "tuple", ko25, .seq #[.str "fault" kt26, .str "EndFault" kt27] kn25, ks25⟩)
    {ka28 : Addr} {ko28 : Option Addr} {kn28 : Nat} {ks28 : Array (Option Value)}
    {kt29 : Tok}
    {kt30 : Tok}
    (n_FAULT : PySem.W.nsIn K mainGlobals "FAULT" = some (some (.ref ka28)))
    (kl28 : K.lookup ka28 = some ⟨.type "tuple", ko28, .seq #[.str "fault" kt29, .str "FieldFault" kt30] kn28, ks28⟩)
    {ka31 : Addr} {ko31 : Option Addr} {kn31 : Nat} {ks31 : Array (Option Value)}
    {ka32 : Addr} {ko32 : Option Addr} {kn32 : Nat} {ks32 : Array (Option Value)}
    {kt33 : Tok}
    {kt34 : Tok}
    {ka35 : Addr} {ko35 : Option Addr} {kn35 : Nat} {ks35 : Array (Option Value)}
    {kt36 : Tok}
    {kt37 : Tok}
    {ka38 : Addr} {ko38 : Option Addr} {kn38 : Nat} {ks38 : Array (Option Value)}
    {kt39 : Tok}
    {kt40 : Tok}
    {ka41 : Addr} {ko41 : Option Addr} {kn41 : Nat} {ks41 : Array (Option Value)}
    {kt42 : Tok}
    {kt43 : Tok}
    {ka44 : Addr} {ko44 : Option Addr} {kn44 : Nat} {ks44 : Array (Option Value)}
    {kt45 : Tok}
    {kt46 : Tok}
    {ka47 : Addr} {ko47 : Option Addr} {kn47 : Nat} {ks47 : Array (Option Value)}
    {kt48 : Tok}
    {kt49 : Tok}
    {ka50 : Addr} {ko50 : Option Addr} {kn50 : Nat} {ks50 : Array (Option Value)}
    {kt51 : Tok}
    {kt52 : Tok}
    {ka53 : Addr} {ko53 : Option Addr} {kn53 : Nat} {ks53 : Array (Option Value)}
    {kt54 : Tok}
    {kt55 : Tok}
    {ka56 : Addr} {ko56 : Option Addr} {kn56 : Nat} {ks56 : Array (Option Value)}
    {kt57 : Tok}
    {kt58 : Tok}
    {ka59 : Addr} {ko59 : Option Addr} {kn59 : Nat} {ks59 : Array (Option Value)}
    {kt60 : Tok}
    {kt61 : Tok}
    {ka62 : Addr} {ko62 : Option Addr} {kn62 : Nat} {ks62 : Array (Option Value)}
    {kt63 : Tok}
    {kt64 : Tok}
    {ka65 : Addr} {ko65 : Option Addr} {kn65 : Nat} {ks65 : Array (Option Value)}
    {kt66 : Tok}
    {kt67 : Tok}
    (n_GIVEN_CLASSES : PySem.W.nsIn K mainGlobals "GIVEN_CLASSES" = some (some (.ref ka31)))
    (kl31 : K.lookup ka31 = some ⟨.type "tuple", ko31, .seq #[.ref ka32, .ref ka35, .ref ka38, .ref ka41, .ref ka44, .ref ka47, .ref ka50, .ref ka53, .ref ka56, .ref ka59, .ref ka62, .ref ka65] kn31, ks31⟩)
    (kl65 : K.lookup ka65 = some ⟨.type "tuple", ko65, .seq #[.str "UnboundFault" kt66, .str "NameFault" kt67] kn65, ks65⟩)
    (kl62 : K.lookup ka62 = some ⟨.type "tuple", ko62, .seq #[.str "DeepFault" kt63, .str "Fault" kt64] kn62, ks62⟩)
    (kl59 : K.lookup ka59 = some ⟨.type "tuple", ko59, .seq #[.str "ShutFault" kt60, .str "Fault" kt61] kn59, ks59⟩)
    (kl56 : K.lookup ka56 = some ⟨.type "tuple", ko56, .seq #[.str "EndFault" kt57, .str "Fault" kt58] kn56, ks56⟩)
    (kl53 : K.lookup ka53 = some ⟨.type "tuple", ko53, .seq #[.str "OrderFault" kt54, .str "Fault" kt55] kn53, ks53⟩)
    (kl50 : K.lookup ka50 = some ⟨.type "tuple", ko50, .seq #[.str "FieldFault" kt51, .str "Fault" kt52] kn50, ks50⟩)
    (kl47 : K.lookup ka47 = some ⟨.type "tuple", ko47, .seq #[.str "GreatFault" kt48, .str "Fault" kt49] kn47, ks47⟩)
    (kl44 : K.lookup ka44 = some ⟨.type "tuple", ko44, .seq #[.str "NoughtFault" kt45, .str "Fault" kt46] kn44, ks44⟩)
    (kl41 : K.lookup ka41 = some ⟨.type "tuple", ko41, .seq #[.str "KindFault" kt42, .str "Fault" kt43] kn41, ks41⟩)
    (kl38 : K.lookup ka38 = some ⟨.type "tuple", ko38, .seq #[.str "NameFault" kt39, .str "Fault" kt40] kn38, ks38⟩)
    (kl35 : K.lookup ka35 = some ⟨.type "tuple", ko35, .seq #[.str "Fault" kt36, .str "Thing" kt37] kn35, ks35⟩)
    (kl32 : K.lookup ka32 = some ⟨.type "tuple", ko32, .seq #[.str "Thing" kt33, .str "" kt34] kn32, ks32⟩)
    {ka68 : Addr} {ko68 : Option Addr} {kn68 : Nat} {ks68 : Array (Option Value)}
    {kt69 : Tok}
    {kt70 : Tok}
    {kt71 : Tok}
    {kt72 : Tok}
    {kt73 : Tok}
    {kt74 : Tok}
    {kt75 : Tok}
    {kt76 : Tok}
    (n_GIVEN_FUNCTIONS : PySem.W.nsIn K mainGlobals "GIVEN_FUNCTIONS" = some (some (.ref ka68)))
    (kl68 : K.lookup ka68 = some ⟨.type "tuple", ko68, .seq #[.str "say" kt69, .str "take" kt70, .str "isa" kt71, .str "elder" kt72, .str "count" kt73, .str "go" kt74, .str "throw" kt75, .str "shut" kt76] kn68, ks68⟩)
    {t_MOST_COUNTED : Tok}
    (n_MOST_COUNTED : PySem.W.nsIn K mainGlobals "MOST_COUNTED" = some (some (.int 10000 t_MOST_COUNTED)))
    {ka77 : Addr} {ko77 : Option Addr} {kn77 : Nat} {ks77 : Array (Option Value)}
    {kt78 : Tok}
    (n_NONE : PySem.W.nsIn K mainGlobals "NONE" = some (some (.ref ka77)))
    (kl77 : K.lookup ka77 = some ⟨.type "tuple", ko77, .seq #[.str "none" kt78] kn77, ks77⟩)
    {ka79 : Addr} {ko79 : Option Addr} {kn79 : Nat} {ks79 : Array (Option Value)}
    {kt80 : Tok}
    {kt81 : Tok}
    (n_WRONG : PySem.W.nsIn K mainGlobals "WRONG" = some (some (.ref ka79)))
    (kl79 : K.lookup ka79 = some ⟨.type "tuple", ko79, .seq #[.str "fault" kt80, .str "KindFault" kt81] kn79, ks79⟩)
    (z_all : PySem.W.nsIn K mainGlobals "all" = some none)
    (z_int : PySem.W.nsIn K mainGlobals "int" = some none)
    (z_isinstance : PySem.W.nsIn K mainGlobals "isinstance" = some none)
    (z_len : PySem.W.nsIn K mainGlobals "len" = some none)
    (z_list : PySem.W.nsIn K mainGlobals "list" = some none)
    (z_range : PySem.W.nsIn K mainGlobals "range" = some none)
    (z_str : PySem.W.nsIn K mainGlobals "str" = some none)
    (z_tuple : PySem.W.nsIn K mainGlobals "tuple" = some none)
    (hlaw : ∀ ns : List Int, ns.length ≤ 63 → ∃ st', F_law [.ref 0] [.fz (ns.map D.int)] = some (.bl true, st')) :
    ∃ fd : FuncData, (∀ (s : Shared) (v : Value), BindsTo s fd ⟨[v], []⟩ [("_law_script", v)]) ∧ ∀ base : Heap, K.In base → base.Ns mainGlobals mg → FnOk l.prog w K mg base CX0 10 fa fd ["_law_script"] (spLaw K) := by
  have e := hfa.symm.trans (PySem.W.mg_of X G a49)
  cases e
  have T : Txt K w mg (fun i => [C0, C1, C2, C3, C4, C5, C6, C7, C8].getD i 0) := ⟨PySem.W.mg_none_of X G z_all,
    PySem.W.mg_none_of X G z_int,
    PySem.W.mg_none_of X G z_isinstance,
    PySem.W.mg_none_of X G z_len,
    PySem.W.mg_none_of X G z_list,
    PySem.W.mg_none_of X G z_range,
    PySem.W.mg_none_of X G z_str,
    PySem.W.mg_none_of X G z_tuple,
    ⟨da_COUNTS, PySem.W.mg_of X G n_COUNTS, (memC ⟨_, ⟨es_COUNTS, dn_COUNTS, _, dl_COUNTS, dk_COUNTS, de_COUNTS_0, (rv_ref _)⟩, fun as H => (vr_ktup kl22 rfl rfl (szK (k := 2) rfl (by decide +kernel)) (.cons (rv_int _ _) (.cons (rv_int _ _) .nil)) (.cons (.int _) (.cons (.int _) .nil)))⟩ (memC ⟨_, ⟨es_COUNTS, dn_COUNTS, _, dl_COUNTS, dk_COUNTS, de_COUNTS_1, (rv_ref _)⟩, fun as H => (vr_ktup kl19 rfl rfl (szK (k := 2) rfl (by decide +kernel)) (.cons (rv_int _ _) (.cons (rv_int _ _) .nil)) (.cons (.int _) (.cons (.int _) .nil)))⟩ (memC ⟨_, ⟨es_COUNTS, dn_COUNTS, _, dl_COUNTS, dk_COUNTS, de_COUNTS_2, (rv_ref _)⟩, fun as H => (vr_ktup kl16 rfl rfl (szK (k := 2) rfl (by decide +kernel)) (.cons (rv_int _ _) (.cons (rv_int _ _) .nil)) (.cons (.int _) (.cons (.int _) .nil)))⟩ (memC ⟨_, ⟨es_COUNTS, dn_COUNTS, _, dl_COUNTS, dk_COUNTS, de_COUNTS_3, (rv_ref _)⟩, fun as H => (vr_ktup kl13 rfl rfl (szK (k := 2) rfl (by decide +kernel)) (.cons (rv_int _ _) (.cons (rv_int _ _) .nil)) (.cons (.int _) (.cons (.int _) .nil)))⟩ (memC ⟨_, ⟨es_COUNTS, dn_COUNTS, _, dl_COUNTS, dk_COUNTS, de_COUNTS_4, (rv_ref _)⟩, fun as H => (vr_ktup kl10 rfl rfl (szK (k := 2) rfl (by decide +kernel)) (.cons (rv_int _ _) (.cons (rv_int _ _) .nil)) (.cons (.int _) (.cons (.int _) .nil)))⟩ (memC ⟨_, ⟨es_COUNTS, dn_COUNTS, _, dl_COUNTS, dk_COUNTS, de_COUNTS_5, (rv_ref _)⟩, fun as H => (vr_ktup kl7 rfl rfl (szK (k := 2) rfl (by decide +kernel)) (.cons (rv_int _ _) (.cons (rv_int _ _) .nil)) (.cons (.int _) (.cons (.int _) .nil)))⟩ (memC ⟨_, ⟨es_COUNTS, dn_COUNTS, _, dl_COUNTS, dk_COUNTS, de_COUNTS_6, (rv_ref _)⟩, fun as H => (vr_ktup kl4 rfl rfl (szK (k := 2) rfl (by decide +kernel)) (.cons (rv_int _ _) (.cons (rv_int _ _) .nil)) (.cons (.int _) (.cons (.int _) .nil)))⟩ (memC ⟨_, ⟨es_COUNTS, dn_COUNTS, _, dl_COUNTS, dk_COUNTS, de_COUNTS_7, (rv_ref _)⟩, fun as H => (vr_ktup kl1 rfl rfl (szK (k := 2) rfl (by decide +kernel)) (.cons (rv_int _ _) (.cons (rv_int _ _) .nil)) (.cons (.int _) (.cons (.int _) .nil)))⟩ memN))))))))⟩,
    ⟨_, PySem.W.mg_of X G n_ENDED, fun as H => (vr_ktup kl25 rfl rfl (szK (k := 2) rfl (by decide +kernel)) (.cons (rv_str [102, 97, 117, 108, 116] (by rfl) _) (.cons (rv_str [69, 110, 100, 70, 97, 117, 108, 116] (by rfl) _) .nil)) (.cons (.str (by decide +kernel)) (.cons (.str (by decide +kernel)) .nil)))⟩,
    ⟨_, PySem.W.mg_of X G n_FAULT, fun as H => (vr_ktup kl28 rfl rfl (szK (k := 2) rfl (by decide +kernel)) (.cons (rv_str [102, 97, 117, 108, 116] (by rfl) _) (.cons (rv_str [70, 105, 101, 108, 100, 70, 97, 117, 108, 116] (by rfl) _) .nil)) (.cons (.str (by decide +kernel)) (.cons (.str (by decide +kernel)) .nil)))⟩,
    ⟨_, PySem.W.mg_of X G n_GIVEN_CLASSES, fun as H => (vr_ktup kl31 rfl rfl (szK (k := 12) rfl (by decide +kernel)) (.cons (rv_ref _) (.cons (rv_ref _) (.cons (rv_ref _) (.cons (rv_ref _) (.cons (rv_ref _) (.cons (rv_ref _) (.cons (rv_ref _) (.cons (rv_ref _) (.cons (rv_ref _) (.cons (rv_ref _) (.cons (rv_ref _) (.cons (rv_ref _) .nil)))))))))))) (.cons (vr_ktup kl32 rfl rfl (szK (k := 2) rfl (by decide +kernel)) (.cons (rv_str [84, 104, 105, 110, 103] (by rfl) _) (.cons (rv_str [] (by rfl) _) .nil)) (.cons (.str (by decide +kernel)) (.cons (.str (by decide +kernel)) .nil))) (.cons (vr_ktup kl35 rfl rfl (szK (k := 2) rfl (by decide +kernel)) (.cons (rv_str [70, 97, 117, 108, 116] (by rfl) _) (.cons (rv_str [84, 104, 105, 110, 103] (by rfl) _) .nil)) (.cons (.str (by decide +kernel)) (.cons (.str (by decide +kernel)) .nil))) (.cons (vr_ktup kl38 rfl rfl (szK (k := 2) rfl (by decide +kernel)) (.cons (rv_str [78, 97, 109, 101, 70, 97, 117, 108, 116] (by rfl) _) (.cons (rv_str [70, 97, 117, 108, 116] (by rfl) _) .nil)) (.cons (.str (by decide +kernel)) (.cons (.str (by decide +kernel)) .nil))) (.cons (vr_ktup kl41 rfl rfl (szK (k := 2) rfl (by decide +kernel)) (.cons (rv_str [75, 105, 110, 100, 70, 97, 117, 108, 116] (by rfl) _) (.cons (rv_str [70, 97, 117, 108, 116] (by rfl) _) .nil)) (.cons (.str (by decide +kernel)) (.cons (.str (by decide +kernel)) .nil))) (.cons (vr_ktup kl44 rfl rfl (szK (k := 2) rfl (by decide +kernel)) (.cons (rv_str [78, 111, 117, 103, 104, 116, 70, 97, 117, 108, 116] (by rfl) _) (.cons (rv_str [70, 97, 117, 108, 116] (by rfl) _) .nil)) (.cons (.str (by decide +kernel)) (.cons (.str (by decide +kernel)) .nil))) (.cons (vr_ktup kl47 rfl rfl (szK (k := 2) rfl (by decide +kernel)) (.cons (rv_str [71, 114, 101, 97, 116, 70, 97, 117, 108, 116] (by rfl) _) (.cons (rv_str [70, 97, 117, 108, 116] (by rfl) _) .nil)) (.cons (.str (by decide +kernel)) (.cons (.str (by decide +kernel)) .nil))) (.cons (vr_ktup kl50 rfl rfl (szK (k := 2) rfl (by decide +kernel)) (.cons (rv_str [70, 105, 101, 108, 100, 70, 97, 117, 108, 116] (by rfl) _) (.cons (rv_str [70, 97, 117, 108, 116] (by rfl) _) .nil)) (.cons (.str (by decide +kernel)) (.cons (.str (by decide +kernel)) .nil))) (.cons (vr_ktup kl53 rfl rfl (szK (k := 2) rfl (by decide +kernel)) (.cons (rv_str [79, 114, 100, 101, 114, 70, 97, 117, 108, 116] (by rfl) _) (.cons (rv_str [70, 97, 117, 108, 116] (by rfl) _) .nil)) (.cons (.str (by decide +kernel)) (.cons (.str (by decide +kernel)) .nil))) (.cons (vr_ktup kl56 rfl rfl (szK (k := 2) rfl (by decide +kernel)) (.cons (rv_str [69, 110, 100, 70, 97, 117, 108, 116] (by rfl) _) (.cons (rv_str [70, 97, 117, 108, 116] (by rfl) _) .nil)) (.cons (.str (by decide +kernel)) (.cons (.str (by decide +kernel)) .nil))) (.cons (vr_ktup kl59 rfl rfl (szK (k := 2) rfl (by decide +kernel)) (.cons (rv_str [83, 104, 117, 116, 70, 97, 117, 108, 116] (by rfl) _) (.cons (rv_str [70, 97, 117, 108, 116] (by rfl) _) .nil)) (.cons (.str (by decide +kernel)) (.cons (.str (by decide +kernel)) .nil))) (.cons (vr_ktup kl62 rfl rfl (szK (k := 2) rfl (by decide +kernel)) (.cons (rv_str [68, 101, 101, 112, 70, 97, 117, 108, 116] (by rfl) _) (.cons (rv_str [70, 97, 117, 108, 116] (by rfl) _) .nil)) (.cons (.str (by decide +kernel)) (.cons (.str (by decide +kernel)) .nil))) (.cons (vr_ktup kl65 rfl rfl (szK (k := 2) rfl (by decide +kernel)) (.cons (rv_str [85, 110, 98, 111, 117, 110, 100, 70, 97, 117, 108, 116] (by rfl) _) (.cons (rv_str [78, 97, 109, 101, 70, 97, 117, 108, 116] (by rfl) _) .nil)) (.cons (.str (by decide +kernel)) (.cons (.str (by decide +kernel)) .nil))) .nil)))))))))))))⟩,
    ⟨_, PySem.W.mg_of X G n_GIVEN_FUNCTIONS, fun as H => (vr_ktup kl68 rfl rfl (szK (k := 8) rfl (by decide +kernel)) (.cons (rv_str [115, 97, 121] (by rfl) _) (.cons (rv_str [116, 97, 107, 101] (by rfl) _) (.cons (rv_str [105, 115, 97] (by rfl) _) (.cons (rv_str [101, 108, 100, 101, 114] (by rfl) _) (.cons (rv_str [99, 111, 117, 110, 116] (by rfl) _) (.cons (rv_str [103, 111] (by rfl) _) (.cons (rv_str [116, 104, 114, 111, 119] (by rfl) _) (.cons (rv_str [115, 104, 117, 116] (by rfl) _) .nil)))))))) (.cons (.str (by decide +kernel)) (.cons (.str (by decide +kernel)) (.cons (.str (by decide +kernel)) (.cons (.str (by decide +kernel)) (.cons (.str (by decide +kernel)) (.cons (.str (by decide +kernel)) (.cons (.str (by decide +kernel)) (.cons (.str (by decide +kernel)) .nil)))))))))⟩,
    ⟨_, PySem.W.mg_of X G n_MOST_COUNTED⟩,
    ⟨_, PySem.W.mg_of X G n_NONE, fun as H => (vr_ktup kl77 rfl rfl (szK (k := 1) rfl (by decide +kernel)) (.cons (rv_str [110, 111, 110, 101] (by rfl) _) .nil) (.cons (.str (by decide +kernel)) .nil))⟩,
    ⟨_, PySem.W.mg_of X G n_WRONG, fun as H => (vr_ktup kl79 rfl rfl (szK (k := 2) rfl (by decide +kernel)) (.cons (rv_str [102, 97, 117, 108, 116] (by rfl) _) (.cons (rv_str [75, 105, 110, 100, 70, 97, 117, 108, 116] (by rfl) _) .nil)) (.cons (.str (by decide +kernel)) (.cons (.str (by decide +kernel)) .nil)))⟩,
    ⟨(memC ⟨⟨pg6, hd6, po6, sa6⟩, na6_at⟩ memN)⟩,
    ⟨(memC ⟨⟨pg1, hd1, po1, sa1⟩, na1_defaults⟩ memN)⟩,
    ⟨(memC ⟨⟨pg6, hd6, po6, sa6⟩, na6_end⟩ memN)⟩,
    ⟨(memC ⟨⟨pg4, hd4, po4, sa4⟩, na4_fields⟩ (memC ⟨⟨pg5, hd5, po5, sa5⟩, na5_fields⟩ memN))⟩,
    ⟨(memC ⟨⟨pg6, hd6, po6, sa6⟩, na6_frame⟩ memN)⟩,
    ⟨(memC ⟨⟨pg3, hd3, po3, sa3⟩, na3_function⟩ memN)⟩,
    ⟨(memC ⟨⟨pg8, hd8, po8, sa8⟩, na8_given_things⟩ memN)⟩,
    ⟨(memC ⟨⟨pg4, hd4, po4, sa4⟩, na4_is_given⟩ memN)⟩,
    ⟨(memC ⟨⟨pg5, hd5, po5, sa5⟩, na5_kind⟩ memN)⟩,
    ⟨(memC ⟨⟨pg8, hd8, po8, sa8⟩, na8_left⟩ memN)⟩,
    ⟨(memC ⟨⟨pg8, hd8, po8, sa8⟩, na8_lines⟩ memN)⟩,
    ⟨(memC ⟨⟨pg1, hd1, po1, sa1⟩, na1_name⟩ (memC ⟨⟨pg2, hd2, po2, sa2⟩, na2_name⟩ (memC ⟨⟨pg4, hd4, po4, sa4⟩, na4_name⟩ (memC ⟨⟨pg6, hd6, po6, sa6⟩, na6_name⟩ memN))))⟩,
    ⟨(memC ⟨⟨pg4, hd4, po4, sa4⟩, na4_order⟩ (memC ⟨⟨pg7, hd7, po7, sa7⟩, na7_order⟩ memN))⟩,
    ⟨(memC ⟨⟨pg3, hd3, po3, sa3⟩, na3_owner⟩ (memC ⟨⟨pg7, hd7, po7, sa7⟩, na7_owner⟩ memN))⟩,
    ⟨(memC ⟨⟨pg1, hd1, po1, sa1⟩, na1_params⟩ memN)⟩,
    ⟨(memC ⟨⟨pg6, hd6, po6, sa6⟩, na6_state⟩ memN)⟩,
    ⟨(memC ⟨⟨pg8, hd8, po8, sa8⟩, na8_things⟩ memN)⟩,
    PySem.W.mg_of X G gC1,
    ⟨kit_n (isS_of ci1) ti1 sn1, (belowS (belowS (belowS (belowS (belowS (belowS (belowS (belowS (belowS below0 (kit_f (isS_of ci1) ti1 su0_1 su1_1)) (kit_t (isS_of ci1) ti1 su1_1)) (kit_f (isS_of ci1) ti1 su2_1 su1_1)) (kit_f (isS_of ci1) ti1 su3_1 su1_1)) (kit_f (isS_of ci1) ti1 su4_1 su1_1)) (kit_f (isS_of ci1) ti1 su5_1 su1_1)) (kit_f (isS_of ci1) ti1 su6_1 su1_1)) (kit_f (isS_of ci1) ti1 su7_1 su1_1)) (kit_f (isS_of ci1) ti1 su8_1 su1_1)), (belowS (belowS (belowS (belowS (belowS (belowS (belowS (belowS (belowS below0 ⟨⟨pg0, hd0, po0, sa0⟩, cc0, mr0⟩) ⟨⟨pg1, hd1, po1, sa1⟩, cc1, mr1⟩) ⟨⟨pg2, hd2, po2, sa2⟩, cc2, mr2⟩) ⟨⟨pg3, hd3, po3, sa3⟩, cc3, mr3⟩) ⟨⟨pg4, hd4, po4, sa4⟩, cc4, mr4⟩) ⟨⟨pg5, hd5, po5, sa5⟩, cc5, mr5⟩) ⟨⟨pg6, hd6, po6, sa6⟩, cc6, mr6⟩) ⟨⟨pg7, hd7, po7, sa7⟩, cc7, mr7⟩) ⟨⟨pg8, hd8, po8, sa8⟩, cc8, mr8⟩), ogs, otk⟩,
    PySem.W.mg_of X G gC2,
    ⟨kit_n (isS_of ci2) ti2 sn2, (belowS (belowS (belowS (belowS (belowS (belowS (belowS (belowS (belowS below0 (kit_f (isS_of ci2) ti2 su0_2 su2_2)) (kit_f (isS_of ci2) ti2 su1_2 su2_2)) (kit_t (isS_of ci2) ti2 su2_2)) (kit_f (isS_of ci2) ti2 su3_2 su2_2)) (kit_f (isS_of ci2) ti2 su4_2 su2_2)) (kit_f (isS_of ci2) ti2 su5_2 su2_2)) (kit_f (isS_of ci2) ti2 su6_2 su2_2)) (kit_f (isS_of ci2) ti2 su7_2 su2_2)) (kit_f (isS_of ci2) ti2 su8_2 su2_2)), (belowS (belowS (belowS (belowS (belowS (belowS (belowS (belowS (belowS below0 ⟨⟨pg0, hd0, po0, sa0⟩, cc0, mr0⟩) ⟨⟨pg1, hd1, po1, sa1⟩, cc1, mr1⟩) ⟨⟨pg2, hd2, po2, sa2⟩, cc2, mr2⟩) ⟨⟨pg3, hd3, po3, sa3⟩, cc3, mr3⟩) ⟨⟨pg4, hd4, po4, sa4⟩, cc4, mr4⟩) ⟨⟨pg5, hd5, po5, sa5⟩, cc5, mr5⟩) ⟨⟨pg6, hd6, po6, sa6⟩, cc6, mr6⟩) ⟨⟨pg7, hd7, po7, sa7⟩, cc7, mr7⟩) ⟨⟨pg8, hd8, po8, sa8⟩, cc8, mr8⟩), ogs, otk⟩,
    PySem.W.mg_of X G gC6,
    ⟨kit_n (isS_of ci6) ti6 sn6, (belowS (belowS (belowS (belowS (belowS (belowS (belowS (belowS (belowS below0 (kit_f (isS_of ci6) ti6 su0_6 su6_6)) (kit_f (isS_of ci6) ti6 su1_6 su6_6)) (kit_f (isS_of ci6) ti6 su2_6 su6_6)) (kit_f (isS_of ci6) ti6 su3_6 su6_6)) (kit_f (isS_of ci6) ti6 su4_6 su6_6)) (kit_f (isS_of ci6) ti6 su5_6 su6_6)) (kit_t (isS_of ci6) ti6 su6_6)) (kit_f (isS_of ci6) ti6 su7_6 su6_6)) (kit_f (isS_of ci6) ti6 su8_6 su6_6)), (belowS (belowS (belowS (belowS (belowS (belowS (belowS (belowS (belowS below0 ⟨⟨pg0, hd0, po0, sa0⟩, cc0, mr0⟩) ⟨⟨pg1, hd1, po1, sa1⟩, cc1, mr1⟩) ⟨⟨pg2, hd2, po2, sa2⟩, cc2, mr2⟩) ⟨⟨pg3, hd3, po3, sa3⟩, cc3, mr3⟩) ⟨⟨pg4, hd4, po4, sa4⟩, cc4, mr4⟩) ⟨⟨pg5, hd5, po5, sa5⟩, cc5, mr5⟩) ⟨⟨pg6, hd6, po6, sa6⟩, cc6, mr6⟩) ⟨⟨pg7, hd7, po7, sa7⟩, cc7, mr7⟩) ⟨⟨pg8, hd8, po8, sa8⟩, cc8, mr8⟩), ogs, otk⟩,
    PySem.W.mg_of X G gC4,
    ⟨kit_n (isS_of ci4) ti4 sn4, (belowS (belowS (belowS (belowS (belowS (belowS (belowS (belowS (belowS below0 (kit_f (isS_of ci4) ti4 su0_4 su4_4)) (kit_f (isS_of ci4) ti4 su1_4 su4_4)) (kit_f (isS_of ci4) ti4 su2_4 su4_4)) (kit_f (isS_of ci4) ti4 su3_4 su4_4)) (kit_t (isS_of ci4) ti4 su4_4)) (kit_f (isS_of ci4) ti4 su5_4 su4_4)) (kit_f (isS_of ci4) ti4 su6_4 su4_4)) (kit_f (isS_of ci4) ti4 su7_4 su4_4)) (kit_f (isS_of ci4) ti4 su8_4 su4_4)), (belowS (belowS (belowS (belowS (belowS (belowS (belowS (belowS (belowS below0 ⟨⟨pg0, hd0, po0, sa0⟩, cc0, mr0⟩) ⟨⟨pg1, hd1, po1, sa1⟩, cc1, mr1⟩) ⟨⟨pg2, hd2, po2, sa2⟩, cc2, mr2⟩) ⟨⟨pg3, hd3, po3, sa3⟩, cc3, mr3⟩) ⟨⟨pg4, hd4, po4, sa4⟩, cc4, mr4⟩) ⟨⟨pg5, hd5, po5, sa5⟩, cc5, mr5⟩) ⟨⟨pg6, hd6, po6, sa6⟩, cc6, mr6⟩) ⟨⟨pg7, hd7, po7, sa7⟩, cc7, mr7⟩) ⟨⟨pg8, hd8, po8, sa8⟩, cc8, mr8⟩), ogs, otk⟩,
    PySem.W.mg_of X G gC5,
    ⟨kit_n (isS_of ci5) ti5 sn5, (belowS (belowS (belowS (belowS (belowS (belowS (belowS (belowS (belowS below0 (kit_f (isS_of ci5) ti5 su0_5 su5_5)) (kit_f (isS_of ci5) ti5 su1_5 su5_5)) (kit_f (isS_of ci5) ti5 su2_5 su5_5)) (kit_f (isS_of ci5) ti5 su3_5 su5_5)) (kit_f (isS_of ci5) ti5 su4_5 su5_5)) (kit_t (isS_of ci5) ti5 su5_5)) (kit_f (isS_of ci5) ti5 su6_5 su5_5)) (kit_f (isS_of ci5) ti5 su7_5 su5_5)) (kit_f (isS_of ci5) ti5 su8_5 su5_5)), (belowS (belowS (belowS (belowS (belowS (belowS (belowS (belowS (belowS below0 ⟨⟨pg0, hd0, po0, sa0⟩, cc0, mr0⟩) ⟨⟨pg1, hd1, po1, sa1⟩, cc1, mr1⟩) ⟨⟨pg2, hd2, po2, sa2⟩, cc2, mr2⟩) ⟨⟨pg3, hd3, po3, sa3⟩, cc3, mr3⟩) ⟨⟨pg4, hd4, po4, sa4⟩, cc4, mr4⟩) ⟨⟨pg5, hd5, po5, sa5⟩, cc5, mr5⟩) ⟨⟨pg6, hd6, po6, sa6⟩, cc6, mr6⟩) ⟨⟨pg7, hd7, po7, sa7⟩, cc7, mr7⟩) ⟨⟨pg8, hd8, po8, sa8⟩, cc8, mr8⟩), ogs, otk⟩,
    PySem.W.mg_of X G gC3,
    ⟨kit_n (isS_of ci3) ti3 sn3, (belowS (belowS (belowS (belowS (belowS (belowS (belowS (belowS (belowS below0 (kit_f (isS_of ci3) ti3 su0_3 su3_3)) (kit_f (isS_of ci3) ti3 su1_3 su3_3)) (kit_f (isS_of ci3) ti3 su2_3 su3_3)) (kit_t (isS_of ci3) ti3 su3_3)) (kit_f (isS_of ci3) ti3 su4_3 su3_3)) (kit_f (isS_of ci3) ti3 su5_3 su3_3)) (kit_f (isS_of ci3) ti3 su6_3 su3_3)) (kit_f (isS_of ci3) ti3 su7_3 su3_3)) (kit_f (isS_of ci3) ti3 su8_3 su3_3)), (belowS (belowS (belowS (belowS (belowS (belowS (belowS (belowS (belowS below0 ⟨⟨pg0, hd0, po0, sa0⟩, cc0, mr0⟩) ⟨⟨pg1, hd1, po1, sa1⟩, cc1, mr1⟩) ⟨⟨pg2, hd2, po2, sa2⟩, cc2, mr2⟩) ⟨⟨pg3, hd3, po3, sa3⟩, cc3, mr3⟩) ⟨⟨pg4, hd4, po4, sa4⟩, cc4, mr4⟩) ⟨⟨pg5, hd5, po5, sa5⟩, cc5, mr5⟩) ⟨⟨pg6, hd6, po6, sa6⟩, cc6, mr6⟩) ⟨⟨pg7, hd7, po7, sa7⟩, cc7, mr7⟩) ⟨⟨pg8, hd8, po8, sa8⟩, cc8, mr8⟩), ogs, otk⟩,
    PySem.W.mg_of X G gC7,
    ⟨kit_n (isS_of ci7) ti7 sn7, (belowS (belowS (belowS (belowS (belowS (belowS (belowS (belowS (belowS below0 (kit_f (isS_of ci7) ti7 su0_7 su7_7)) (kit_f (isS_of ci7) ti7 su1_7 su7_7)) (kit_f (isS_of ci7) ti7 su2_7 su7_7)) (kit_f (isS_of ci7) ti7 su3_7 su7_7)) (kit_f (isS_of ci7) ti7 su4_7 su7_7)) (kit_f (isS_of ci7) ti7 su5_7 su7_7)) (kit_f (isS_of ci7) ti7 su6_7 su7_7)) (kit_t (isS_of ci7) ti7 su7_7)) (kit_f (isS_of ci7) ti7 su8_7 su7_7)), (belowS (belowS (belowS (belowS (belowS (belowS (belowS (belowS (belowS below0 ⟨⟨pg0, hd0, po0, sa0⟩, cc0, mr0⟩) ⟨⟨pg1, hd1, po1, sa1⟩, cc1, mr1⟩) ⟨⟨pg2, hd2, po2, sa2⟩, cc2, mr2⟩) ⟨⟨pg3, hd3, po3, sa3⟩, cc3, mr3⟩) ⟨⟨pg4, hd4, po4, sa4⟩, cc4, mr4⟩) ⟨⟨pg5, hd5, po5, sa5⟩, cc5, mr5⟩) ⟨⟨pg6, hd6, po6, sa6⟩, cc6, mr6⟩) ⟨⟨pg7, hd7, po7, sa7⟩, cc7, mr7⟩) ⟨⟨pg8, hd8, po8, sa8⟩, cc8, mr8⟩), ogs, otk⟩,
    mkAt_mk X G gC2 mk0 kc0 a0 i0 l0 c0 k0 (fun _ _ _ _ _ _ us hl => match us, hl with | [_, _], _ => rfl),
    mkAt_mk X G gC3 mk1 kc1 a1 i1 l1 c1 k1 (fun _ _ _ _ _ _ us hl => match us, hl with | [_, _, _], _ => rfl),
    mkAt_mk X G gC4 mk2 kc2 a2 i2 l2 c2 k2 (fun _ _ _ _ _ _ us hl => match us, hl with | [_, _, _, _, _], _ => rfl),
    mkAt_mk X G gC5 mk3 kc3 a3 i3 l3 c3 k3 (fun _ _ _ _ _ _ us hl => match us, hl with | [_, _, _], _ => rfl),
    mkAt_mk X G gC6 mk4 kc4 a4 i4 l4 c4 k4 (fun _ _ _ _ _ _ us hl => match us, hl with | [_, _, _, _], _ => rfl),
    mkAt_mk X G gC7 mk5 kc5 a5 i5 l5 c5 k5 (fun _ _ _ _ _ _ us hl => match us, hl with | [_, _, _], _ => rfl),
    fnAt_mk X G a6 l6 c6 k6 (fun _ _ _ _ _ _ us hl => match us, hl with | [_, _], _ => rfl),
    fnAt_mk X G a7 l7 c7 k7 (fun _ _ _ _ _ _ us hl => match us, hl with | [_, _], _ => rfl),
    mkAt_mk X G gC8 mk8 kc8 a8 i8 l8 c8 k8 (fun _ _ _ _ _ _ us hl => match us, hl with | [_, _], _ => rfl),
    fnAt_mk X G a9 l9 c9 k9 (fun _ _ _ _ _ _ us hl => match us, hl with | [_, _], _ => rfl),
    fnAt_mk X G a10 l10 c10 k10 (fun _ _ _ _ _ _ us hl => match us, hl with | [_, _, _], _ => rfl),
    fnAt_mk X G a11 l11 c11 k11 (fun _ _ _ _ _ _ us hl => match us, hl with | [_, _], _ => rfl),
    fnAt_mk X G a12 l12 c12 k12 (fun _ _ _ _ _ _ us hl => match us, hl with | [_, _], _ => rfl),
    fnAt_mk X G a13 l13 c13 k13 (fun _ _ _ _ _ _ us hl => match us, hl with | [_, _], _ => rfl),
    fnAt_mk X G a14 l14 c14 k14 (fun _ _ _ _ _ _ us hl => match us, hl with | [_, _, _], _ => rfl),
    fnAt_mk X G a15 l15 c15 k15 (fun _ _ _ _ _ _ us hl => match us, hl with | [_, _, _], _ => rfl),
    fnAt_mk X G a16 l16 c16 k16 (fun _ _ _ _ _ _ us hl => match us, hl with | [_, _], _ => rfl),
    fnAt_mk X G a17 l17 c17 k17 (fun _ _ _ _ _ _ us hl => match us, hl with | [_, _], _ => rfl),
    fnAt_mk X G a18 l18 c18 k18 (fun _ _ _ _ _ _ us hl => match us, hl with | [_, _], _ => rfl),
    fnD_mk (dvs := [.non]) X G a19 l19 c19 k19 lT19 (.cons rfl .nil) (by simp) 2 0 rfl (fun as H => (.cons .non .nil)) (fun _ _ _ _ _ _ _ us its hl h2 => match us, hl, its, h2 with | [_, _], _, [_], _ => ⟨_, rfl, rfl⟩),
    fnAt_mk X G a20 l20 c20 k20 (fun _ _ _ _ _ _ us hl => match us, hl with | [_, _, _], _ => rfl),
    fnAt_mk X G a21 l21 c21 k21 (fun _ _ _ _ _ _ us hl => match us, hl with | [_, _, _], _ => rfl),
    fnAt_mk X G a22 l22 c22 k22 (fun _ _ _ _ _ _ us hl => match us, hl with | [_, _, _], _ => rfl),
    fnAt_mk X G a23 l23 c23 k23 (fun _ _ _ _ _ _ us hl => match us, hl with | [_, _], _ => rfl),
    fnAt_mk X G a24 l24 c24 k24 (fun _ _ _ _ _ _ us hl => match us, hl with | [_, _, _], _ => rfl),
    fnAt_mk X G a25 l25 c25 k25 (fun _ _ _ _ _ _ us hl => match us, hl with | [_, _, _], _ => rfl),
    fnAt_mk X G a26 l26 c26 k26 (fun _ _ _ _ _ _ us hl => match us, hl with | [_], _ => rfl),
    fnAt_mk X G a27 l27 c27 k27 (fun _ _ _ _ _ _ us hl => match us, hl with | [_, _, _], _ => rfl),
    fnAt_mk X G a28 l28 c28 k28 (fun _ _ _ _ _ _ us hl => match us, hl with | [_, _, _], _ => rfl),
    fnAt_mk X G a29 l29 c29 k29 (fun _ _ _ _ _ _ us hl => match us, hl with | [_, _], _ => rfl),
    fnAt_mk X G a30 l30 c30 k30 (fun _ _ _ _ _ _ us hl => match us, hl with | [_, _, _], _ => rfl),
    fnAt_mk X G a31 l31 c31 k31 (fun _ _ _ _ _ _ us hl => match us, hl with | [_, _, _], _ => rfl),
    fnAt_mk X G a32 l32 c32 k32 (fun _ _ _ _ _ _ us hl => match us, hl with | [_, _], _ => rfl),
    fnAt_mk X G a33 l33 c33 k33 (fun _ _ _ _ _ _ us hl => match us, hl with | [_, _, _], _ => rfl),
    fnAt_mk X G a34 l34 c34 k34 (fun _ _ _ _ _ _ us hl => match us, hl with | [_, _, _], _ => rfl),
    fnAt_mk X G a35 l35 c35 k35 (fun _ _ _ _ _ _ us hl => match us, hl with | [_, _, _], _ => rfl),
    fnAt_mk X G a36 l36 c36 k36 (fun _ _ _ _ _ _ us hl => match us, hl with | [_, _], _ => rfl),
    fnAt_mk X G a37 l37 c37 k37 (fun _ _ _ _ _ _ us hl => match us, hl with | [_, _], _ => rfl),
    fnAt_mk X G a38 l38 c38 k38 (fun _ _ _ _ _ _ us hl => match us, hl with | [_, _], _ => rfl),
    fnAt_mk X G a39 l39 c39 k39 (fun _ _ _ _ _ _ us hl => match us, hl with | [_, _], _ => rfl),
    fnAt_mk X G a40 l40 c40 k40 (fun _ _ _ _ _ _ us hl => match us, hl with | [_], _ => rfl),
    fnAt_mk X G a41 l41 c41 k41 (fun _ _ _ _ _ _ us hl => match us, hl with | [_, _, _, _], _ => rfl),
    fnAt_mk X G a42 l42 c42 k42 (fun _ _ _ _ _ _ us hl => match us, hl with | [_, _, _, _], _ => rfl),
    fnAt_mk X G a43 l43 c43 k43 (fun _ _ _ _ _ _ us hl => match us, hl with | [_, _], _ => rfl),
    fnAt_mk X G a44 l44 c44 k44 (fun _ _ _ _ _ _ us hl => match us, hl with | [_, _, _], _ => rfl),
    fnAt_mk X G a45 l45 c45 k45 (fun _ _ _ _ _ _ us hl => match us, hl with | [_, _, _], _ => rfl),
    fnAt_mk X G a46 l46 c46 k46 (fun _ _ _ _ _ _ us hl => match us, hl with | [_, _], _ => rfl),
    fnAt_mk X G a47 l47 c47 k47 (fun _ _ _ _ _ _ us hl => match us, hl with | [_, _, _, _], _ => rfl),
    fnAt_mk X G a48 l48 c48 k48 (fun _ _ _ _ _ _ us hl => match us, hl with | [_, _], _ => rfl),
    fnAt_mk X G a49 l49 c49 k49 (fun _ _ _ _ _ _ us hl => match us, hl with | [_], _ => rfl)⟩
  exact ⟨_, fun s v => .of_eq rfl, fun base _ _ => law_imp (cad := (fun i => [C0, C1, C2, C3, C4, C5, C6, C7, C8].getD i 0)) (ok_law T (fun_mk l49 c49 k49)) hlaw⟩
end
end Text

set_option maxRecDepth 100000
set_option maxHeartbeats 4000000
namespace Math
open MP Text PySem
abbrev th (i : Int) : D := .tup [.str [116, 104, 105, 110, 103], .int i]

abbrev kd0 : Ob := .ins 4 [("name", .str [84, 104, 105, 110, 103]), ("order", .tup []), ("fields", .ref 9), ("is_given", .bl true)]
abbrev kd1 : Ob := .ins 4 [("name", .str [70, 97, 117, 108, 116]), ("order", .tup [th 0]), ("fields", .ref 11), ("is_given", .bl true)]
abbrev kd2 : Ob := .ins 4 [("name", .str [78, 97, 109, 101, 70, 97, 117, 108, 116]), ("order", .tup [th 1, th 0]), ("fields", .ref 13), ("is_given", .bl true)]
abbrev kd3 : Ob := .ins 4 [("name", .str [75, 105, 110, 100, 70, 97, 117, 108, 116]), ("order", .tup [th 1, th 0]), ("fields", .ref 15), ("is_given", .bl true)]
abbrev kd4 : Ob := .ins 4 [("name", .str [78, 111, 117, 103, 104, 116, 70, 97, 117, 108, 116]), ("order", .tup [th 1, th 0]), ("fields", .ref 17), ("is_given", .bl true)]
abbrev kd5 : Ob := .ins 4 [("name", .str [71, 114, 101, 97, 116, 70, 97, 117, 108, 116]), ("order", .tup [th 1, th 0]), ("fields", .ref 19), ("is_given", .bl true)]
abbrev kd6 : Ob := .ins 4 [("name", .str [70, 105, 101, 108, 100, 70, 97, 117, 108, 116]), ("order", .tup [th 1, th 0]), ("fields", .ref 21), ("is_given", .bl true)]
abbrev kd7 : Ob := .ins 4 [("name", .str [79, 114, 100, 101, 114, 70, 97, 117, 108, 116]), ("order", .tup [th 1, th 0]), ("fields", .ref 23), ("is_given", .bl true)]
abbrev kd8 : Ob := .ins 4 [("name", .str [69, 110, 100, 70, 97, 117, 108, 116]), ("order", .tup [th 1, th 0]), ("fields", .ref 25), ("is_given", .bl true)]
abbrev kd9 : Ob := .ins 4 [("name", .str [83, 104, 117, 116, 70, 97, 117, 108, 116]), ("order", .tup [th 1, th 0]), ("fields", .ref 27), ("is_given", .bl true)]
abbrev kd10 : Ob := .ins 4 [("name", .str [68, 101, 101, 112, 70, 97, 117, 108, 116]), ("order", .tup [th 1, th 0]), ("fields", .ref 29), ("is_given", .bl true)]
abbrev kd11 : Ob := .ins 4 [("name", .str [85, 110, 98, 111, 117, 110, 100, 70, 97, 117, 108, 116]), ("order", .tup [th 2, th 1, th 0]), ("fields", .ref 31), ("is_given", .bl true)]
def THS : List Nat := [10, 12, 14, 16, 18, 20, 22, 24, 26, 28, 30, 32, 33, 34, 35, 36, 37, 38, 39, 40]
def GIV : List (Sum Int Str × D) := [(.inr (mkS [84, 104, 105, 110, 103]), th 0), (.inr (mkS [70, 97, 117, 108, 116]), th 1), (.inr (mkS [78, 97, 109, 101, 70, 97, 117, 108, 116]), th 2), (.inr (mkS [75, 105, 110, 100, 70, 97, 117, 108, 116]), th 3), (.inr (mkS [78, 111, 117, 103, 104, 116, 70, 97, 117, 108, 116]), th 4), (.inr (mkS [71, 114, 101, 97, 116, 70, 97, 117, 108, 116]), th 5), (.inr (mkS [70, 105, 101, 108, 100, 70, 97, 117, 108, 116]), th 6), (.inr (mkS [79, 114, 100, 101, 114, 70, 97, 117, 108, 116]), th 7), (.inr (mkS [69, 110, 100, 70, 97, 117, 108, 116]), th 8), (.inr (mkS [83, 104, 117, 116, 70, 97, 117, 108, 116]), th 9), (.inr (mkS [68, 101, 101, 112, 70, 97, 117, 108, 116]), th 10), (.inr (mkS [85, 110, 98, 111, 117, 110, 100, 70, 97, 117, 108, 116]), th 11), (.inr (mkS [115, 97, 121]), th 12), (.inr (mkS [116, 97, 107, 101]), th 13), (.inr (mkS [105, 115, 97]), th 14), (.inr (mkS [101, 108, 100, 101, 114]), th 15), (.inr (mkS [99, 111, 117, 110, 116]), th 16), (.inr (mkS [103, 111]), th 17), (.inr (mkS [116, 104, 114, 111, 119]), th 18), (.inr (mkS [115, 104, 117, 116]), th 19)]
abbrev WOB : Ob := .ins 8 [("lines", .ref 5), ("left", .ref 6), ("things", .ref 7), ("given_things", .ref 8)]
def W0 : Sto := [.lst [], WOB, .lst [], .lst [], .lst (THS.map D.ref), .dic GIV, .dic [], kd0, .dic [], kd1, .dic [], kd2, .dic [], kd3, .dic [], kd4, .dic [], kd5, .dic [], kd6, .dic [], kd7, .dic [], kd8, .dic [], kd9, .dic [], kd10, .dic [], kd11, .ins 2 [("name", .str [115, 97, 121])], .ins 2 [("name", .str [116, 97, 107, 101])], .ins 2 [("name", .str [105, 115, 97])], .ins 2 [("name", .str [101, 108, 100, 101, 114])], .ins 2 [("name", .str [99, 111, 117, 110, 116])], .ins 2 [("name", .str [103, 111])], .ins 2 [("name", .str [116, 104, 114, 111, 119])], .ins 2 [("name", .str [115, 104, 117, 116])]]
theorem world0 (a b c : Ob) : F_World_init [.ref 4, .ref 3] [a, b, c, .lst [], .ins 8 []] = some (.non, a :: b :: c :: W0) := by
  unfold F_World_init b_World_init
  rw [sFor_tupT, sFor_tupT]
  kernel_rfl
end Math

set_option maxRecDepth 100000
set_option maxHeartbeats 4000000
namespace Math
open MP Text PySem
theorem eq_str (st : Sto) (l m : List Nat) : eqO st (.str l) (.str m) = some (decide (l = m)) := by
  have mkS_beq : (mkS l == mkS m) = decide (l = m) := by
    by_cases h : l = m
    · subst h
      simp
    · rw [decide_eq_false h]
      exact beq_eq_false_iff_ne.mpr fun z => h (mkS_inj z)
  simp [eqO, DEEP, toP, PyData.eqv, mkS_beq]
theorem atI0 {α : Type} (x : α) (r : List α) : L2.atI (x :: r) 0 = some x := L2.atI_nat (j := 0) rfl
theorem atI1 {α : Type} (x y : α) (r : List α) : L2.atI (x :: y :: r) 1 = some y := L2.atI_nat (j := 1) rfl
/-- what stands of the world -/
def FIXED : List (Nat × Ob) := [(4, WOB), (8, .dic GIV), (10, kd0), (12, kd1), (14, kd2), (16, kd3), (18, kd4), (20, kd5), (22, kd6), (24, kd7), (26, kd8), (28, kd9), (30, kd10), (32, kd11), (33, .ins 2 [("name", .str [115, 97, 121])]), (34, .ins 2 [("name", .str [116, 97, 107, 101])]), (35, .ins 2 [("name", .str [105, 115, 97])]), (36, .ins 2 [("name", .str [101, 108, 100, 101, 114])]), (37, .ins 2 [("name", .str [99, 111, 117, 110, 116])]), (38, .ins 2 [("name", .str [103, 111])]), (39, .ins 2 [("name", .str [116, 104, 114, 111, 119])]), (40, .ins 2 [("name", .str [115, 104, 117, 116])])]
structure Wd (ths : List Nat) (st : Sto) : Prop where
  f : ∀ p ∈ FIXED, st[p.1]? = some p.2
  t : st[7]? = some (.lst (ths.map D.ref))
  h : ∃ more, ths = THS ++ more
  z : ths.length ≤ 100000
theorem fixed_lt : ∀ p ∈ FIXED, p.1 < 41 ∧ p.1 ≠ 7 := by decide +kernel
theorem get_grow {st g : Sto} {k : Nat} {o : Ob} (h : st[k]? = some o) : (st ++ g)[k]? = some o := by
  rw [List.getElem?_append_left (List.getElem?_eq_some_iff.mp h).1]
  exact h
theorem Wd.grow {ths : List Nat} {st g : Sto} (w : Wd ths st) : Wd ths (st ++ g) := ⟨fun p hp => get_grow (w.f p hp), get_grow w.t, w.h, w.z⟩
theorem Wd.set {ths : List Nat} {st : Sto} (w : Wd ths st) {j : Nat} {o : Ob} (hj : 41 ≤ j) : Wd ths (st.set j o) :=
  ⟨fun p hp => by
    have := (fixed_lt p hp).1
    rw [List.getElem?_set_ne (by omega)]
    exact w.f p hp, by
    rw [List.getElem?_set_ne (by omega)]
    exact w.t, w.h, w.z⟩
theorem Wd.set2 {ths : List Nat} {st : Sto} (w : Wd ths st) {o : Ob} : Wd ths (st.set 2 o) :=
  ⟨fun p hp => by
    have h2 : ∀ p ∈ FIXED, p.1 ≠ 2 := by decide +kernel
    have := h2 p hp
    rw [List.getElem?_set_ne (by omega)]
    exact w.f p hp, by
    rw [List.getElem?_set_ne (by omega)]
    exact w.t, w.h, w.z⟩
theorem Wd.put {ths : List Nat} {st : Sto} (w : Wd ths st) (r : Nat) (hz : ths.length < 100000) : Wd (ths ++ [r]) (st.set 7 (.lst ((ths ++ [r]).map D.ref))) := by
  have hl : 7 < st.length := (List.getElem?_eq_some_iff.mp w.t).1
  refine ⟨fun p hp => ?_, List.getElem?_set_self hl, ?_, by rw [List.length_append, List.length_singleton]; omega⟩
  · rw [List.getElem?_set_ne (Ne.symm (fixed_lt p hp).2)]
    exact w.f p hp
  · obtain ⟨more, e⟩ := w.h
    exact ⟨more ++ [r], by rw [e, List.append_assoc]⟩
section
variable {ths : List Nat} {st : Sto} (w : Wd ths st)
include w
theorem Wd.wo : st[4]? = some WOB := w.f _ (.head _)
theorem Wd.my8 : myD st 8 = some GIV := by
  have h := w.f (8, .dic GIV) (.tail _ (.head _))
  unfold myD
  rw [h]
theorem Wd.my7 : myL st 7 = some (ths.map D.ref) := by
  unfold myL
  rw [w.t]
theorem Wd.things : fldO [8] "things" (.ref 4) st = some (.ref 7) := fldO_ins w.wo (by decide) (by rfl)
theorem Wd.givens : fldO [8] "given_things" (.ref 4) st = some (.ref 8) := fldO_ins w.wo (by decide) (by rfl)
theorem known_is {n : List Nat} {i : Int} (h : valD GIV (.inr (mkS n)) = some (th i)) : F_known [.ref 4, .str n] st = some (th i, st) := by
  have h1 : (myD st 8).isSome = true := by rw [w.my8]; rfl
  have h2 : getO 8 (.str n) .non st = some (th i) := by
    simp only [getO, w.my8, keyOf, h]
    rfl
  simp only [F_known, b_known, eVar_at, kVar_some, eC_at, eBin_at, k2_some, k3_some, eUn_at, k1_some, kVal_some, kBl_some, kEq_at, kBlN_some, kNe_at, kIn_at, kNotIn_at, kIx_at, ixO_tup, kLt_int, kLe_int, kGt_int, kGe_int, kLt_str, kLe_str, kGt_str, kGe_str, kIs_non, kIs_bl, kIs_int, kIs_str, kIs_tup, kIs_ref, kIsNot_non, kIsNot_bl, kIsNot_int, kIsNot_str, kIsNot_tup, kIsNot_ref, opAdd_int, opAdd_str, opSub_int, opMul_int, opDiv_int, opMod_int, opPow_int, opAnd_int, opOr_int, opNeg_int, eChain_at, kc1_some, kc2_some, kc3_true, kc3_false, kc4_some, tOf_at, kTru_some, kTru2_some, truD_non, truD_bl, truD_int, truD_tup, tAnd_at, kAnd_true, kAnd_false, tOr_at, kOr_true, kOr_false, tNot_at, kNot_some, tYes_at, eAnd_at, keAnd_some, keAnd2_true, keAnd2_false, eOr_at, keOr_some, keOr2_true, keOr2_false, eNot_at, keNot_some, keNot2_some, eIf_at, keIf_true, keIf_false, aNil_at, aCons_at, ka1_some, ka2_some, eTup_at, kTup_0, kTup_1, kTup_2, kTup_3, kTup_4, kTup_5, kTup_6, eLst_at, kLst_0, kLst_1, kLst_2, kLst_3, kLst_4, eDic0_at, eCall_at, kCall_some, o1_at, isiO_at, kIsi_some, tyD_non, tyD_bl, tyD_int, tyD_str, tyD_tup, eBM_at, kbm1_some, kbm2_some, eSl_at, ks2_some, ks3_some, ks4_some, oNone_at, oSome_at, kSome_int, slO_str, sSeq_at, kSeq_nx, kSeq_rt, kSeq_bk, kSeq_ct, sNext_at, sBreak_at, sCont_at, sRetN_at, sRet_at, kRet_some, sExpr_at, kExpr_some, sSet_at, kSet_some, sIf_at, kIf_true, kIf_false, sPar2_k, kPar2_some, sPar3_k, kPar3_some, sAsg_at, kAsg_some, kAsg2_some, mName_at, mTup_2, mTup_3, mCons_at, kmCons_some, mNil_at, sPut_at, kp1_some, kp2_some, kp3_some, kp4_some, kFn_rt, kFn_nx, mkFn_0, mkFn_1, mkFn_2, mkFn_3, mkFn_4, mkFn_5, sWhile_at, List.getElem?_cons_zero, List.getElem?_cons_succ, List.set_cons_zero, List.set_cons_succ, List.replicate_succ, List.replicate_zero, Nat.reduceSub, Bool.not_true, Bool.not_false, ite_true, ite_false, if_true, if_false, reduceCtorEq, fldM_at, sFldM_at, kSF1_some, kSF2_some, kSF3_some, sFldAddM_at, kSA1_some, kSA2_int, eMake_at, kMk1_some, kMk2_some, isCM_at, isCO_non, eGet1_at, kG12_some, kG13_some, eGet2_at, kG22_some, kG23_some, eCallD_at, kCallD_some, eKdx_at, kKdx_some, kIsB_at, w.givens, kG11_some h1, h2]
theorem rec_is {i : Nat} {r : Nat} (h : ths[i]? = some r) : F_record_of [.ref 4, th (i : Nat)] st = some (.ref r, st) := by
  have h1 : ixO (.ref 7) (.int (i : Nat)) st = some (.ref r) := by
    rw [ixO_lst (myL_rdL w.my7)]
    exact L2.atI_nat (by simp [h])
  simp only [F_record_of, b_record_of, eVar_at, kVar_some, eC_at, eBin_at, k2_some, k3_some, eUn_at, k1_some, kVal_some, kBl_some, kEq_at, kBlN_some, kNe_at, kIn_at, kNotIn_at, kIx_at, ixO_tup, kLt_int, kLe_int, kGt_int, kGe_int, kLt_str, kLe_str, kGt_str, kGe_str, kIs_non, kIs_bl, kIs_int, kIs_str, kIs_tup, kIs_ref, kIsNot_non, kIsNot_bl, kIsNot_int, kIsNot_str, kIsNot_tup, kIsNot_ref, opAdd_int, opAdd_str, opSub_int, opMul_int, opDiv_int, opMod_int, opPow_int, opAnd_int, opOr_int, opNeg_int, eChain_at, kc1_some, kc2_some, kc3_true, kc3_false, kc4_some, tOf_at, kTru_some, kTru2_some, truD_non, truD_bl, truD_int, truD_tup, tAnd_at, kAnd_true, kAnd_false, tOr_at, kOr_true, kOr_false, tNot_at, kNot_some, tYes_at, eAnd_at, keAnd_some, keAnd2_true, keAnd2_false, eOr_at, keOr_some, keOr2_true, keOr2_false, eNot_at, keNot_some, keNot2_some, eIf_at, keIf_true, keIf_false, aNil_at, aCons_at, ka1_some, ka2_some, eTup_at, kTup_0, kTup_1, kTup_2, kTup_3, kTup_4, kTup_5, kTup_6, eLst_at, kLst_0, kLst_1, kLst_2, kLst_3, kLst_4, eDic0_at, eCall_at, kCall_some, o1_at, isiO_at, kIsi_some, tyD_non, tyD_bl, tyD_int, tyD_str, tyD_tup, eBM_at, kbm1_some, kbm2_some, eSl_at, ks2_some, ks3_some, ks4_some, oNone_at, oSome_at, kSome_int, slO_str, sSeq_at, kSeq_nx, kSeq_rt, kSeq_bk, kSeq_ct, sNext_at, sBreak_at, sCont_at, sRetN_at, sRet_at, kRet_some, sExpr_at, kExpr_some, sSet_at, kSet_some, sIf_at, kIf_true, kIf_false, sPar2_k, kPar2_some, sPar3_k, kPar3_some, sAsg_at, kAsg_some, kAsg2_some, mName_at, mTup_2, mTup_3, mCons_at, kmCons_some, mNil_at, sPut_at, kp1_some, kp2_some, kp3_some, kp4_some, kFn_rt, kFn_nx, mkFn_0, mkFn_1, mkFn_2, mkFn_3, mkFn_4, mkFn_5, sWhile_at, List.getElem?_cons_zero, List.getElem?_cons_succ, List.set_cons_zero, List.set_cons_succ, List.replicate_succ, List.replicate_zero, Nat.reduceSub, Bool.not_true, Bool.not_false, ite_true, ite_false, if_true, if_false, reduceCtorEq, fldM_at, sFldM_at, kSF1_some, kSF2_some, kSF3_some, sFldAddM_at, kSA1_some, kSA2_int, eMake_at, kMk1_some, kMk2_some, isCM_at, isCO_non, eGet1_at, kG12_some, kG13_some, eGet2_at, kG22_some, kG23_some, eCallD_at, kCallD_some, eKdx_at, kKdx_some, kIsB_at, w.things, atI0, atI1, eq_str, h1, List.cons.injEq, Nat.reduceEqDiff, decide_false, decide_true, and_false, and_true, false_and, true_and, Bool.or_false, Bool.or_true, Bool.true_or, Bool.false_or, Bool.and_true, Bool.and_false, Bool.false_and, Bool.true_and]
omit w in
theorem rec_non {s : List Nat} {r : List D} (h : s ≠ [116, 104, 105, 110, 103]) : F_record_of [.ref 4, .tup (.str s :: r)] st = some (.non, st) := by
  simp only [F_record_of, b_record_of, eVar_at, kVar_some, eC_at, eBin_at, k2_some, k3_some, eUn_at, k1_some, kVal_some, kBl_some, kEq_at, kBlN_some, kNe_at, kIn_at, kNotIn_at, kIx_at, ixO_tup, kLt_int, kLe_int, kGt_int, kGe_int, kLt_str, kLe_str, kGt_str, kGe_str, kIs_non, kIs_bl, kIs_int, kIs_str, kIs_tup, kIs_ref, kIsNot_non, kIsNot_bl, kIsNot_int, kIsNot_str, kIsNot_tup, kIsNot_ref, opAdd_int, opAdd_str, opSub_int, opMul_int, opDiv_int, opMod_int, opPow_int, opAnd_int, opOr_int, opNeg_int, eChain_at, kc1_some, kc2_some, kc3_true, kc3_false, kc4_some, tOf_at, kTru_some, kTru2_some, truD_non, truD_bl, truD_int, truD_tup, tAnd_at, kAnd_true, kAnd_false, tOr_at, kOr_true, kOr_false, tNot_at, kNot_some, tYes_at, eAnd_at, keAnd_some, keAnd2_true, keAnd2_false, eOr_at, keOr_some, keOr2_true, keOr2_false, eNot_at, keNot_some, keNot2_some, eIf_at, keIf_true, keIf_false, aNil_at, aCons_at, ka1_some, ka2_some, eTup_at, kTup_0, kTup_1, kTup_2, kTup_3, kTup_4, kTup_5, kTup_6, eLst_at, kLst_0, kLst_1, kLst_2, kLst_3, kLst_4, eDic0_at, eCall_at, kCall_some, o1_at, isiO_at, kIsi_some, tyD_non, tyD_bl, tyD_int, tyD_str, tyD_tup, eBM_at, kbm1_some, kbm2_some, eSl_at, ks2_some, ks3_some, ks4_some, oNone_at, oSome_at, kSome_int, slO_str, sSeq_at, kSeq_nx, kSeq_rt, kSeq_bk, kSeq_ct, sNext_at, sBreak_at, sCont_at, sRetN_at, sRet_at, kRet_some, sExpr_at, kExpr_some, sSet_at, kSet_some, sIf_at, kIf_true, kIf_false, sPar2_k, kPar2_some, sPar3_k, kPar3_some, sAsg_at, kAsg_some, kAsg2_some, mName_at, mTup_2, mTup_3, mCons_at, kmCons_some, mNil_at, sPut_at, kp1_some, kp2_some, kp3_some, kp4_some, kFn_rt, kFn_nx, mkFn_0, mkFn_1, mkFn_2, mkFn_3, mkFn_4, mkFn_5, sWhile_at, List.getElem?_cons_zero, List.getElem?_cons_succ, List.set_cons_zero, List.set_cons_succ, List.replicate_succ, List.replicate_zero, Nat.reduceSub, Bool.not_true, Bool.not_false, ite_true, ite_false, if_true, if_false, reduceCtorEq, fldM_at, sFldM_at, kSF1_some, kSF2_some, kSF3_some, sFldAddM_at, kSA1_some, kSA2_int, eMake_at, kMk1_some, kMk2_some, isCM_at, isCO_non, eGet1_at, kG12_some, kG13_some, eGet2_at, kG22_some, kG23_some, eCallD_at, kCallD_some, eKdx_at, kKdx_some, kIsB_at, atI0, eq_str, h, List.cons.injEq, Nat.reduceEqDiff, decide_false, decide_true, and_false, and_true, false_and, true_and, Bool.or_false, Bool.or_true, Bool.true_or, Bool.false_or, Bool.and_true, Bool.and_false, Bool.false_and, Bool.true_and]
theorem put_is (r : Nat) : F_put_record [.ref 4, .ref r] st = some (th (ths.length : Nat), st.set 7 (.lst ((ths ++ [r]).map D.ref))) := by
  have hl : 7 < st.length := (List.getElem?_eq_some_iff.mp w.t).1
  have h2 : fldO [8] "things" (.ref 4) (st.set 7 (.lst ((ths ++ [r]).map D.ref))) = some (.ref 7) := fldO_ins (by rw [List.getElem?_set_ne (by decide)]; exact w.wo) (by decide) (by rfl)
  have h3 : lenO (.ref 7) (st.set 7 (.lst ((ths ++ [r]).map D.ref))) = some (.int (((ths ++ [r]).map D.ref).length : Nat)) := lenO_lst (myL_rdL (myL_set hl))
  have h4 : appM (.ref 7) [.ref r] st = some (.non, st.set 7 (.lst ((ths ++ [r]).map D.ref))) := by
    have : (ths.map D.ref).length < LIM := by
      rw [List.length_map]
      have := w.z
      unfold LIM
      omega
    simp only [appM, w.my7, this, if_true, List.map_append, List.map_cons, List.map_nil]
  have h5 : ((((ths ++ [r]).map D.ref).length : Nat) : Int) - 1 = (ths.length : Nat) := by
    rw [List.length_map, List.length_append, List.length_singleton]
    omega
  simp only [F_put_record, b_put_record, eVar_at, kVar_some, eC_at, eBin_at, k2_some, k3_some, eUn_at, k1_some, kVal_some, kBl_some, kEq_at, kBlN_some, kNe_at, kIn_at, kNotIn_at, kIx_at, ixO_tup, kLt_int, kLe_int, kGt_int, kGe_int, kLt_str, kLe_str, kGt_str, kGe_str, kIs_non, kIs_bl, kIs_int, kIs_str, kIs_tup, kIs_ref, kIsNot_non, kIsNot_bl, kIsNot_int, kIsNot_str, kIsNot_tup, kIsNot_ref, opAdd_int, opAdd_str, opSub_int, opMul_int, opDiv_int, opMod_int, opPow_int, opAnd_int, opOr_int, opNeg_int, eChain_at, kc1_some, kc2_some, kc3_true, kc3_false, kc4_some, tOf_at, kTru_some, kTru2_some, truD_non, truD_bl, truD_int, truD_tup, tAnd_at, kAnd_true, kAnd_false, tOr_at, kOr_true, kOr_false, tNot_at, kNot_some, tYes_at, eAnd_at, keAnd_some, keAnd2_true, keAnd2_false, eOr_at, keOr_some, keOr2_true, keOr2_false, eNot_at, keNot_some, keNot2_some, eIf_at, keIf_true, keIf_false, aNil_at, aCons_at, ka1_some, ka2_some, eTup_at, kTup_0, kTup_1, kTup_2, kTup_3, kTup_4, kTup_5, kTup_6, eLst_at, kLst_0, kLst_1, kLst_2, kLst_3, kLst_4, eDic0_at, eCall_at, kCall_some, o1_at, isiO_at, kIsi_some, tyD_non, tyD_bl, tyD_int, tyD_str, tyD_tup, eBM_at, kbm1_some, kbm2_some, eSl_at, ks2_some, ks3_some, ks4_some, oNone_at, oSome_at, kSome_int, slO_str, sSeq_at, kSeq_nx, kSeq_rt, kSeq_bk, kSeq_ct, sNext_at, sBreak_at, sCont_at, sRetN_at, sRet_at, kRet_some, sExpr_at, kExpr_some, sSet_at, kSet_some, sIf_at, kIf_true, kIf_false, sPar2_k, kPar2_some, sPar3_k, kPar3_some, sAsg_at, kAsg_some, kAsg2_some, mName_at, mTup_2, mTup_3, mCons_at, kmCons_some, mNil_at, sPut_at, kp1_some, kp2_some, kp3_some, kp4_some, kFn_rt, kFn_nx, mkFn_0, mkFn_1, mkFn_2, mkFn_3, mkFn_4, mkFn_5, sWhile_at, List.getElem?_cons_zero, List.getElem?_cons_succ, List.set_cons_zero, List.set_cons_succ, List.replicate_succ, List.replicate_zero, Nat.reduceSub, Bool.not_true, Bool.not_false, ite_true, ite_false, if_true, if_false, reduceCtorEq, fldM_at, sFldM_at, kSF1_some, kSF2_some, kSF3_some, sFldAddM_at, kSA1_some, kSA2_int, eMake_at, kMk1_some, kMk2_some, isCM_at, isCO_non, eGet1_at, kG12_some, kG13_some, eGet2_at, kG22_some, kG23_some, eCallD_at, kCallD_some, eKdx_at, kKdx_some, kIsB_at, w.things, isL_my w.my7, h2, h3, h4, h5]
/-- a record of the world -/
theorem giver_of {i r c : Nat} {fs : List (Str × D)} (h : ths[i]? = some r) (hr : st[r]? = some (.ins c fs)) (hc : c < 9) : F_is_giver [.ref 4, th (i : Nat)] st = some (.bl (decide (c ∈ [6])), st) := by
  simp only [F_is_giver, b_is_giver, eVar_at, kVar_some, eC_at, eBin_at, k2_some, k3_some, eUn_at, k1_some, kVal_some, kBl_some, kEq_at, kBlN_some, kNe_at, kIn_at, kNotIn_at, kIx_at, ixO_tup, kLt_int, kLe_int, kGt_int, kGe_int, kLt_str, kLe_str, kGt_str, kGe_str, kIs_non, kIs_bl, kIs_int, kIs_str, kIs_tup, kIs_ref, kIsNot_non, kIsNot_bl, kIsNot_int, kIsNot_str, kIsNot_tup, kIsNot_ref, opAdd_int, opAdd_str, opSub_int, opMul_int, opDiv_int, opMod_int, opPow_int, opAnd_int, opOr_int, opNeg_int, eChain_at, kc1_some, kc2_some, kc3_true, kc3_false, kc4_some, tOf_at, kTru_some, kTru2_some, truD_non, truD_bl, truD_int, truD_tup, tAnd_at, kAnd_true, kAnd_false, tOr_at, kOr_true, kOr_false, tNot_at, kNot_some, tYes_at, eAnd_at, keAnd_some, keAnd2_true, keAnd2_false, eOr_at, keOr_some, keOr2_true, keOr2_false, eNot_at, keNot_some, keNot2_some, eIf_at, keIf_true, keIf_false, aNil_at, aCons_at, ka1_some, ka2_some, eTup_at, kTup_0, kTup_1, kTup_2, kTup_3, kTup_4, kTup_5, kTup_6, eLst_at, kLst_0, kLst_1, kLst_2, kLst_3, kLst_4, eDic0_at, eCall_at, kCall_some, o1_at, isiO_at, kIsi_some, tyD_non, tyD_bl, tyD_int, tyD_str, tyD_tup, eBM_at, kbm1_some, kbm2_some, eSl_at, ks2_some, ks3_some, ks4_some, oNone_at, oSome_at, kSome_int, slO_str, sSeq_at, kSeq_nx, kSeq_rt, kSeq_bk, kSeq_ct, sNext_at, sBreak_at, sCont_at, sRetN_at, sRet_at, kRet_some, sExpr_at, kExpr_some, sSet_at, kSet_some, sIf_at, kIf_true, kIf_false, sPar2_k, kPar2_some, sPar3_k, kPar3_some, sAsg_at, kAsg_some, kAsg2_some, mName_at, mTup_2, mTup_3, mCons_at, kmCons_some, mNil_at, sPut_at, kp1_some, kp2_some, kp3_some, kp4_some, kFn_rt, kFn_nx, mkFn_0, mkFn_1, mkFn_2, mkFn_3, mkFn_4, mkFn_5, sWhile_at, List.getElem?_cons_zero, List.getElem?_cons_succ, List.set_cons_zero, List.set_cons_succ, List.replicate_succ, List.replicate_zero, Nat.reduceSub, Bool.not_true, Bool.not_false, ite_true, ite_false, if_true, if_false, reduceCtorEq, fldM_at, sFldM_at, kSF1_some, kSF2_some, kSF3_some, sFldAddM_at, kSA1_some, kSA2_int, eMake_at, kMk1_some, kMk2_some, isCM_at, isCO_non, eGet1_at, kG12_some, kG13_some, eGet2_at, kG22_some, kG23_some, eCallD_at, kCallD_some, eKdx_at, kKdx_some, kIsB_at, rec_is w h, isCO_ins hr hc]
omit w in
theorem giver_no {s : List Nat} {r : List D} (h : s ≠ [116, 104, 105, 110, 103]) : F_is_giver [.ref 4, .tup (.str s :: r)] st = some (.bl false, st) := by
  simp only [F_is_giver, b_is_giver, eVar_at, kVar_some, eC_at, eBin_at, k2_some, k3_some, eUn_at, k1_some, kVal_some, kBl_some, kEq_at, kBlN_some, kNe_at, kIn_at, kNotIn_at, kIx_at, ixO_tup, kLt_int, kLe_int, kGt_int, kGe_int, kLt_str, kLe_str, kGt_str, kGe_str, kIs_non, kIs_bl, kIs_int, kIs_str, kIs_tup, kIs_ref, kIsNot_non, kIsNot_bl, kIsNot_int, kIsNot_str, kIsNot_tup, kIsNot_ref, opAdd_int, opAdd_str, opSub_int, opMul_int, opDiv_int, opMod_int, opPow_int, opAnd_int, opOr_int, opNeg_int, eChain_at, kc1_some, kc2_some, kc3_true, kc3_false, kc4_some, tOf_at, kTru_some, kTru2_some, truD_non, truD_bl, truD_int, truD_tup, tAnd_at, kAnd_true, kAnd_false, tOr_at, kOr_true, kOr_false, tNot_at, kNot_some, tYes_at, eAnd_at, keAnd_some, keAnd2_true, keAnd2_false, eOr_at, keOr_some, keOr2_true, keOr2_false, eNot_at, keNot_some, keNot2_some, eIf_at, keIf_true, keIf_false, aNil_at, aCons_at, ka1_some, ka2_some, eTup_at, kTup_0, kTup_1, kTup_2, kTup_3, kTup_4, kTup_5, kTup_6, eLst_at, kLst_0, kLst_1, kLst_2, kLst_3, kLst_4, eDic0_at, eCall_at, kCall_some, o1_at, isiO_at, kIsi_some, tyD_non, tyD_bl, tyD_int, tyD_str, tyD_tup, eBM_at, kbm1_some, kbm2_some, eSl_at, ks2_some, ks3_some, ks4_some, oNone_at, oSome_at, kSome_int, slO_str, sSeq_at, kSeq_nx, kSeq_rt, kSeq_bk, kSeq_ct, sNext_at, sBreak_at, sCont_at, sRetN_at, sRet_at, kRet_some, sExpr_at, kExpr_some, sSet_at, kSet_some, sIf_at, kIf_true, kIf_false, sPar2_k, kPar2_some, sPar3_k, kPar3_some, sAsg_at, kAsg_some, kAsg2_some, mName_at, mTup_2, mTup_3, mCons_at, kmCons_some, mNil_at, sPut_at, kp1_some, kp2_some, kp3_some, kp4_some, kFn_rt, kFn_nx, mkFn_0, mkFn_1, mkFn_2, mkFn_3, mkFn_4, mkFn_5, sWhile_at, List.getElem?_cons_zero, List.getElem?_cons_succ, List.set_cons_zero, List.set_cons_succ, List.replicate_succ, List.replicate_zero, Nat.reduceSub, Bool.not_true, Bool.not_false, ite_true, ite_false, if_true, if_false, reduceCtorEq, fldM_at, sFldM_at, kSF1_some, kSF2_some, kSF3_some, sFldAddM_at, kSA1_some, kSA2_int, eMake_at, kMk1_some, kMk2_some, isCM_at, isCO_non, eGet1_at, kG12_some, kG13_some, eGet2_at, kG22_some, kG23_some, eCallD_at, kCallD_some, eKdx_at, kKdx_some, kIsB_at, rec_non h]
end
/-- a giver's record -/
def recG (nm fr en at_ stt : D) : Ob := .ins 6 [("name", nm), ("frame", fr), ("end", en), ("at", at_), ("state", stt)]
section
variable {ths : List Nat} {st : Sto} {i r : Nat} {nm fr en at_ stt : D}
theorem g_frame (hr : st[r]? = some (recG nm fr en at_ stt)) : fldO [6] "frame" (.ref r) st = some fr := fldO_ins hr (by decide) (by rfl)
theorem g_end (hr : st[r]? = some (recG nm fr en at_ stt)) : fldO [6] "end" (.ref r) st = some en := fldO_ins hr (by decide) (by rfl)
theorem g_at (hr : st[r]? = some (recG nm fr en at_ stt)) : fldO [6] "at" (.ref r) st = some at_ := fldO_ins hr (by decide) (by rfl)
theorem g_state (hr : st[r]? = some (recG nm fr en at_ stt)) : fldO [6] "state" (.ref r) st = some stt := fldO_ins hr (by decide) (by rfl)
theorem s_state (hr : st[r]? = some (recG nm fr en at_ stt)) (x : D) : setFO [6] "state" (.ref r) x st = some (st.set r (recG nm fr en at_ x)) := setFO_ins hr (by decide) (by simp)
theorem s_at (hr : st[r]? = some (recG nm fr en at_ stt)) (x : D) : setFO [6] "at" (.ref r) x st = some (st.set r (recG nm fr en x stt)) := setFO_ins hr (by decide) (by simp)
theorem state_is (w : Wd ths st) (h : ths[i]? = some r) (hr : st[r]? = some (recG nm fr en at_ stt)) : F_state_of [.ref 4, th (i : Nat)] st = some (stt, st) := by
  simp only [F_state_of, b_state_of, eVar_at, kVar_some, eC_at, eBin_at, k2_some, k3_some, eUn_at, k1_some, kVal_some, kBl_some, kEq_at, kBlN_some, kNe_at, kIn_at, kNotIn_at, kIx_at, ixO_tup, kLt_int, kLe_int, kGt_int, kGe_int, kLt_str, kLe_str, kGt_str, kGe_str, kIs_non, kIs_bl, kIs_int, kIs_str, kIs_tup, kIs_ref, kIsNot_non, kIsNot_bl, kIsNot_int, kIsNot_str, kIsNot_tup, kIsNot_ref, opAdd_int, opAdd_str, opSub_int, opMul_int, opDiv_int, opMod_int, opPow_int, opAnd_int, opOr_int, opNeg_int, eChain_at, kc1_some, kc2_some, kc3_true, kc3_false, kc4_some, tOf_at, kTru_some, kTru2_some, truD_non, truD_bl, truD_int, truD_tup, tAnd_at, kAnd_true, kAnd_false, tOr_at, kOr_true, kOr_false, tNot_at, kNot_some, tYes_at, eAnd_at, keAnd_some, keAnd2_true, keAnd2_false, eOr_at, keOr_some, keOr2_true, keOr2_false, eNot_at, keNot_some, keNot2_some, eIf_at, keIf_true, keIf_false, aNil_at, aCons_at, ka1_some, ka2_some, eTup_at, kTup_0, kTup_1, kTup_2, kTup_3, kTup_4, kTup_5, kTup_6, eLst_at, kLst_0, kLst_1, kLst_2, kLst_3, kLst_4, eDic0_at, eCall_at, kCall_some, o1_at, isiO_at, kIsi_some, tyD_non, tyD_bl, tyD_int, tyD_str, tyD_tup, eBM_at, kbm1_some, kbm2_some, eSl_at, ks2_some, ks3_some, ks4_some, oNone_at, oSome_at, kSome_int, slO_str, sSeq_at, kSeq_nx, kSeq_rt, kSeq_bk, kSeq_ct, sNext_at, sBreak_at, sCont_at, sRetN_at, sRet_at, kRet_some, sExpr_at, kExpr_some, sSet_at, kSet_some, sIf_at, kIf_true, kIf_false, sPar2_k, kPar2_some, sPar3_k, kPar3_some, sAsg_at, kAsg_some, kAsg2_some, mName_at, mTup_2, mTup_3, mCons_at, kmCons_some, mNil_at, sPut_at, kp1_some, kp2_some, kp3_some, kp4_some, kFn_rt, kFn_nx, mkFn_0, mkFn_1, mkFn_2, mkFn_3, mkFn_4, mkFn_5, sWhile_at, List.getElem?_cons_zero, List.getElem?_cons_succ, List.set_cons_zero, List.set_cons_succ, List.replicate_succ, List.replicate_zero, Nat.reduceSub, Bool.not_true, Bool.not_false, ite_true, ite_false, if_true, if_false, reduceCtorEq, fldM_at, sFldM_at, kSF1_some, kSF2_some, kSF3_some, sFldAddM_at, kSA1_some, kSA2_int, eMake_at, kMk1_some, kMk2_some, isCM_at, isCO_non, eGet1_at, kG12_some, kG13_some, eGet2_at, kG22_some, kG23_some, eCallD_at, kCallD_some, eKdx_at, kKdx_some, kIsB_at, rec_is w h, g_state hr]
theorem frame_is (w : Wd ths st) (h : ths[i]? = some r) (hr : st[r]? = some (recG nm fr en at_ stt)) : F_frame_of [.ref 4, th (i : Nat)] st = some (fr, st) := by
  simp only [F_frame_of, b_frame_of, eVar_at, kVar_some, eC_at, eBin_at, k2_some, k3_some, eUn_at, k1_some, kVal_some, kBl_some, kEq_at, kBlN_some, kNe_at, kIn_at, kNotIn_at, kIx_at, ixO_tup, kLt_int, kLe_int, kGt_int, kGe_int, kLt_str, kLe_str, kGt_str, kGe_str, kIs_non, kIs_bl, kIs_int, kIs_str, kIs_tup, kIs_ref, kIsNot_non, kIsNot_bl, kIsNot_int, kIsNot_str, kIsNot_tup, kIsNot_ref, opAdd_int, opAdd_str, opSub_int, opMul_int, opDiv_int, opMod_int, opPow_int, opAnd_int, opOr_int, opNeg_int, eChain_at, kc1_some, kc2_some, kc3_true, kc3_false, kc4_some, tOf_at, kTru_some, kTru2_some, truD_non, truD_bl, truD_int, truD_tup, tAnd_at, kAnd_true, kAnd_false, tOr_at, kOr_true, kOr_false, tNot_at, kNot_some, tYes_at, eAnd_at, keAnd_some, keAnd2_true, keAnd2_false, eOr_at, keOr_some, keOr2_true, keOr2_false, eNot_at, keNot_some, keNot2_some, eIf_at, keIf_true, keIf_false, aNil_at, aCons_at, ka1_some, ka2_some, eTup_at, kTup_0, kTup_1, kTup_2, kTup_3, kTup_4, kTup_5, kTup_6, eLst_at, kLst_0, kLst_1, kLst_2, kLst_3, kLst_4, eDic0_at, eCall_at, kCall_some, o1_at, isiO_at, kIsi_some, tyD_non, tyD_bl, tyD_int, tyD_str, tyD_tup, eBM_at, kbm1_some, kbm2_some, eSl_at, ks2_some, ks3_some, ks4_some, oNone_at, oSome_at, kSome_int, slO_str, sSeq_at, kSeq_nx, kSeq_rt, kSeq_bk, kSeq_ct, sNext_at, sBreak_at, sCont_at, sRetN_at, sRet_at, kRet_some, sExpr_at, kExpr_some, sSet_at, kSet_some, sIf_at, kIf_true, kIf_false, sPar2_k, kPar2_some, sPar3_k, kPar3_some, sAsg_at, kAsg_some, kAsg2_some, mName_at, mTup_2, mTup_3, mCons_at, kmCons_some, mNil_at, sPut_at, kp1_some, kp2_some, kp3_some, kp4_some, kFn_rt, kFn_nx, mkFn_0, mkFn_1, mkFn_2, mkFn_3, mkFn_4, mkFn_5, sWhile_at, List.getElem?_cons_zero, List.getElem?_cons_succ, List.set_cons_zero, List.set_cons_succ, List.replicate_succ, List.replicate_zero, Nat.reduceSub, Bool.not_true, Bool.not_false, ite_true, ite_false, if_true, if_false, reduceCtorEq, fldM_at, sFldM_at, kSF1_some, kSF2_some, kSF3_some, sFldAddM_at, kSA1_some, kSA2_int, eMake_at, kMk1_some, kMk2_some, isCM_at, isCO_non, eGet1_at, kG12_some, kG13_some, eGet2_at, kG22_some, kG23_some, eCallD_at, kCallD_some, eKdx_at, kKdx_some, kIsB_at, rec_is w h, g_frame hr]
theorem set_is (w : Wd ths st) (h : ths[i]? = some r) (hr : st[r]? = some (recG nm fr en at_ stt)) (x : D) : F_set_state [.ref 4, th (i : Nat), x] st = some (.non, st.set r (recG nm fr en at_ x)) := by
  simp only [F_set_state, b_set_state, eVar_at, kVar_some, eC_at, eBin_at, k2_some, k3_some, eUn_at, k1_some, kVal_some, kBl_some, kEq_at, kBlN_some, kNe_at, kIn_at, kNotIn_at, kIx_at, ixO_tup, kLt_int, kLe_int, kGt_int, kGe_int, kLt_str, kLe_str, kGt_str, kGe_str, kIs_non, kIs_bl, kIs_int, kIs_str, kIs_tup, kIs_ref, kIsNot_non, kIsNot_bl, kIsNot_int, kIsNot_str, kIsNot_tup, kIsNot_ref, opAdd_int, opAdd_str, opSub_int, opMul_int, opDiv_int, opMod_int, opPow_int, opAnd_int, opOr_int, opNeg_int, eChain_at, kc1_some, kc2_some, kc3_true, kc3_false, kc4_some, tOf_at, kTru_some, kTru2_some, truD_non, truD_bl, truD_int, truD_tup, tAnd_at, kAnd_true, kAnd_false, tOr_at, kOr_true, kOr_false, tNot_at, kNot_some, tYes_at, eAnd_at, keAnd_some, keAnd2_true, keAnd2_false, eOr_at, keOr_some, keOr2_true, keOr2_false, eNot_at, keNot_some, keNot2_some, eIf_at, keIf_true, keIf_false, aNil_at, aCons_at, ka1_some, ka2_some, eTup_at, kTup_0, kTup_1, kTup_2, kTup_3, kTup_4, kTup_5, kTup_6, eLst_at, kLst_0, kLst_1, kLst_2, kLst_3, kLst_4, eDic0_at, eCall_at, kCall_some, o1_at, isiO_at, kIsi_some, tyD_non, tyD_bl, tyD_int, tyD_str, tyD_tup, eBM_at, kbm1_some, kbm2_some, eSl_at, ks2_some, ks3_some, ks4_some, oNone_at, oSome_at, kSome_int, slO_str, sSeq_at, kSeq_nx, kSeq_rt, kSeq_bk, kSeq_ct, sNext_at, sBreak_at, sCont_at, sRetN_at, sRet_at, kRet_some, sExpr_at, kExpr_some, sSet_at, kSet_some, sIf_at, kIf_true, kIf_false, sPar2_k, kPar2_some, sPar3_k, kPar3_some, sAsg_at, kAsg_some, kAsg2_some, mName_at, mTup_2, mTup_3, mCons_at, kmCons_some, mNil_at, sPut_at, kp1_some, kp2_some, kp3_some, kp4_some, kFn_rt, kFn_nx, mkFn_0, mkFn_1, mkFn_2, mkFn_3, mkFn_4, mkFn_5, sWhile_at, List.getElem?_cons_zero, List.getElem?_cons_succ, List.set_cons_zero, List.set_cons_succ, List.replicate_succ, List.replicate_zero, Nat.reduceSub, Bool.not_true, Bool.not_false, ite_true, ite_false, if_true, if_false, reduceCtorEq, fldM_at, sFldM_at, kSF1_some, kSF2_some, kSF3_some, sFldAddM_at, kSA1_some, kSA2_int, eMake_at, kMk1_some, kMk2_some, isCM_at, isCO_non, eGet1_at, kG12_some, kG13_some, eGet2_at, kG22_some, kG23_some, eCallD_at, kCallD_some, eKdx_at, kKdx_some, kIsB_at, rec_is w h, s_state hr]
end
end Math

set_option maxRecDepth 100000
set_option maxHeartbeats 4000000
namespace Math
open MP Text PySem
abbrev aNo : D := .tup [.str [110, 111, 110, 101]]
abbrev fK : D := .tup [.str [102, 97, 117, 108, 116], .str [75, 105, 110, 100, 70, 97, 117, 108, 116]]
abbrev fE : D := .tup [.str [102, 97, 117, 108, 116], .str [69, 110, 100, 70, 97, 117, 108, 116]]
abbrev sNew : List Nat := [110, 101, 119]
abbrev sGoes : List Nat := [103, 111, 101, 115]
abbrev sWaits : List Nat := [119, 97, 105, 116, 115]
abbrev sOver : List Nat := [111, 118, 101, 114]
/-- the four states -/
def St4 (s : List Nat) : Prop := s = sNew ∨ s = sGoes ∨ s = sWaits ∨ s = sOver
def isNon : D → Bool
  | .non => true
  | _ => false
theorem kIsNot_at (d : D) (st : Sto) : kIsNot d .non st = some (.bl (!isNon d), st) := by cases d <;> rfl
theorem kIs_at (d : D) (st : Sto) : kIs d .non st = some (.bl (isNon d), st) := by cases d <;> rfl
/-- what going on tells: the state, whether None is handed in, whether it is a count's -/
def goA (s : List Nat) (b n : Bool) (g v : D) : D := if s = sGoes then fK else if s = sOver then fE else if s = sNew ∧ b = false ∧ n = false then fK else .tup [.str [103, 111], g, v]
def thrA (s : List Nat) (g x : D) : D := if s = sGoes then fK else if s = sOver then .tup [.str [114, 97, 105, 115, 101], x] else .tup [.str [116, 104, 114, 111, 119], g, x]
def askA (s : List Nat) (g : D) : D := if s = sGoes then fK else if s = sOver then .tup [.str [111, 118, 101, 114]] else .tup [.str [103, 111], g, aNo]
section
variable {ths : List Nat} {st : Sto} {i r : Nat} {nm fr en at_ v : D} {s : List Nat} {b : Bool}
theorem gone_is (w : Wd ths st) (h : ths[i]? = some r) (hr : st[r]? = some (recG nm fr en at_ (.str s))) (hs : St4 s) (hv : eqO st v aNo = some b) : F_gone_on [.ref 4, th (i : Nat), v] st = some (goA s b (isNon fr) (th (i : Nat)) v, st) := by
  have e1 := g_state hr
  have e2 := g_frame hr
  rcases hs with rfl | rfl | rfl | rfl <;> cases b <;> cases hn : isNon fr <;> simp only [F_gone_on, b_gone_on, eVar_at, kVar_some, eC_at, eBin_at, k2_some, k3_some, eUn_at, k1_some, kVal_some, kBl_some, kEq_at, kBlN_some, kNe_at, kIn_at, kNotIn_at, kIx_at, ixO_tup, kLt_int, kLe_int, kGt_int, kGe_int, kLt_str, kLe_str, kGt_str, kGe_str, kIs_non, kIs_bl, kIs_int, kIs_str, kIs_tup, kIs_ref, kIsNot_non, kIsNot_bl, kIsNot_int, kIsNot_str, kIsNot_tup, kIsNot_ref, opAdd_int, opAdd_str, opSub_int, opMul_int, opDiv_int, opMod_int, opPow_int, opAnd_int, opOr_int, opNeg_int, eChain_at, kc1_some, kc2_some, kc3_true, kc3_false, kc4_some, tOf_at, kTru_some, kTru2_some, truD_non, truD_bl, truD_int, truD_tup, tAnd_at, kAnd_true, kAnd_false, tOr_at, kOr_true, kOr_false, tNot_at, kNot_some, tYes_at, eAnd_at, keAnd_some, keAnd2_true, keAnd2_false, eOr_at, keOr_some, keOr2_true, keOr2_false, eNot_at, keNot_some, keNot2_some, eIf_at, keIf_true, keIf_false, aNil_at, aCons_at, ka1_some, ka2_some, eTup_at, kTup_0, kTup_1, kTup_2, kTup_3, kTup_4, kTup_5, kTup_6, eLst_at, kLst_0, kLst_1, kLst_2, kLst_3, kLst_4, eDic0_at, eCall_at, kCall_some, o1_at, isiO_at, kIsi_some, tyD_non, tyD_bl, tyD_int, tyD_str, tyD_tup, eBM_at, kbm1_some, kbm2_some, eSl_at, ks2_some, ks3_some, ks4_some, oNone_at, oSome_at, kSome_int, slO_str, sSeq_at, kSeq_nx, kSeq_rt, kSeq_bk, kSeq_ct, sNext_at, sBreak_at, sCont_at, sRetN_at, sRet_at, kRet_some, sExpr_at, kExpr_some, sSet_at, kSet_some, sIf_at, kIf_true, kIf_false, sPar2_k, kPar2_some, sPar3_k, kPar3_some, sAsg_at, kAsg_some, kAsg2_some, mName_at, mTup_2, mTup_3, mCons_at, kmCons_some, mNil_at, sPut_at, kp1_some, kp2_some, kp3_some, kp4_some, kFn_rt, kFn_nx, mkFn_0, mkFn_1, mkFn_2, mkFn_3, mkFn_4, mkFn_5, sWhile_at, List.getElem?_cons_zero, List.getElem?_cons_succ, List.set_cons_zero, List.set_cons_succ, List.replicate_succ, List.replicate_zero, Nat.reduceSub, Bool.not_true, Bool.not_false, ite_true, ite_false, if_true, if_false, reduceCtorEq, fldM_at, sFldM_at, kSF1_some, kSF2_some, kSF3_some, sFldAddM_at, kSA1_some, kSA2_int, eMake_at, kMk1_some, kMk2_some, isCM_at, isCO_non, eGet1_at, kG12_some, kG13_some, eGet2_at, kG22_some, kG23_some, eCallD_at, kCallD_some, eKdx_at, kKdx_some, kIsB_at, atI0, atI1, eq_str, ixO_tup, lenO_tup, mTup_2, List.cons.injEq, Nat.reduceEqDiff, decide_false, decide_true, and_false, and_true, false_and, true_and, Bool.or_false, Bool.or_true, Bool.true_or, Bool.false_or, Bool.and_true, Bool.and_false, Bool.false_and, Bool.true_and, Int.reduceLE, Int.reduceLT, rec_is w h, e1, e2, hv, kIsNot_at, hn, goA] <;> rfl
theorem thrown_is (w : Wd ths st) (h : ths[i]? = some r) (hr : st[r]? = some (recG nm fr en at_ (.str s))) (hs : St4 s) : F_thrown [.ref 4, th (i : Nat), v] st = some (thrA s (th (i : Nat)) v, st) := by
  have e1 := g_state hr
  rcases hs with rfl | rfl | rfl | rfl <;> simp only [F_thrown, b_thrown, eVar_at, kVar_some, eC_at, eBin_at, k2_some, k3_some, eUn_at, k1_some, kVal_some, kBl_some, kEq_at, kBlN_some, kNe_at, kIn_at, kNotIn_at, kIx_at, ixO_tup, kLt_int, kLe_int, kGt_int, kGe_int, kLt_str, kLe_str, kGt_str, kGe_str, kIs_non, kIs_bl, kIs_int, kIs_str, kIs_tup, kIs_ref, kIsNot_non, kIsNot_bl, kIsNot_int, kIsNot_str, kIsNot_tup, kIsNot_ref, opAdd_int, opAdd_str, opSub_int, opMul_int, opDiv_int, opMod_int, opPow_int, opAnd_int, opOr_int, opNeg_int, eChain_at, kc1_some, kc2_some, kc3_true, kc3_false, kc4_some, tOf_at, kTru_some, kTru2_some, truD_non, truD_bl, truD_int, truD_tup, tAnd_at, kAnd_true, kAnd_false, tOr_at, kOr_true, kOr_false, tNot_at, kNot_some, tYes_at, eAnd_at, keAnd_some, keAnd2_true, keAnd2_false, eOr_at, keOr_some, keOr2_true, keOr2_false, eNot_at, keNot_some, keNot2_some, eIf_at, keIf_true, keIf_false, aNil_at, aCons_at, ka1_some, ka2_some, eTup_at, kTup_0, kTup_1, kTup_2, kTup_3, kTup_4, kTup_5, kTup_6, eLst_at, kLst_0, kLst_1, kLst_2, kLst_3, kLst_4, eDic0_at, eCall_at, kCall_some, o1_at, isiO_at, kIsi_some, tyD_non, tyD_bl, tyD_int, tyD_str, tyD_tup, eBM_at, kbm1_some, kbm2_some, eSl_at, ks2_some, ks3_some, ks4_some, oNone_at, oSome_at, kSome_int, slO_str, sSeq_at, kSeq_nx, kSeq_rt, kSeq_bk, kSeq_ct, sNext_at, sBreak_at, sCont_at, sRetN_at, sRet_at, kRet_some, sExpr_at, kExpr_some, sSet_at, kSet_some, sIf_at, kIf_true, kIf_false, sPar2_k, kPar2_some, sPar3_k, kPar3_some, sAsg_at, kAsg_some, kAsg2_some, mName_at, mTup_2, mTup_3, mCons_at, kmCons_some, mNil_at, sPut_at, kp1_some, kp2_some, kp3_some, kp4_some, kFn_rt, kFn_nx, mkFn_0, mkFn_1, mkFn_2, mkFn_3, mkFn_4, mkFn_5, sWhile_at, List.getElem?_cons_zero, List.getElem?_cons_succ, List.set_cons_zero, List.set_cons_succ, List.replicate_succ, List.replicate_zero, Nat.reduceSub, Bool.not_true, Bool.not_false, ite_true, ite_false, if_true, if_false, reduceCtorEq, fldM_at, sFldM_at, kSF1_some, kSF2_some, kSF3_some, sFldAddM_at, kSA1_some, kSA2_int, eMake_at, kMk1_some, kMk2_some, isCM_at, isCO_non, eGet1_at, kG12_some, kG13_some, eGet2_at, kG22_some, kG23_some, eCallD_at, kCallD_some, eKdx_at, kKdx_some, kIsB_at, atI0, atI1, eq_str, ixO_tup, lenO_tup, mTup_2, List.cons.injEq, Nat.reduceEqDiff, decide_false, decide_true, and_false, and_true, false_and, true_and, Bool.or_false, Bool.or_true, Bool.true_or, Bool.false_or, Bool.and_true, Bool.and_false, Bool.false_and, Bool.true_and, Int.reduceLE, Int.reduceLT, rec_is w h, e1, thrA] <;> rfl
theorem asked_is (w : Wd ths st) (h : ths[i]? = some r) (hr : st[r]? = some (recG nm fr en at_ (.str s))) (hs : St4 s) : F_asked [.ref 4, th (i : Nat)] st = some (askA s (th (i : Nat)), st) := by
  have e1 := g_state hr
  rcases hs with rfl | rfl | rfl | rfl <;> simp only [F_asked, b_asked, eVar_at, kVar_some, eC_at, eBin_at, k2_some, k3_some, eUn_at, k1_some, kVal_some, kBl_some, kEq_at, kBlN_some, kNe_at, kIn_at, kNotIn_at, kIx_at, ixO_tup, kLt_int, kLe_int, kGt_int, kGe_int, kLt_str, kLe_str, kGt_str, kGe_str, kIs_non, kIs_bl, kIs_int, kIs_str, kIs_tup, kIs_ref, kIsNot_non, kIsNot_bl, kIsNot_int, kIsNot_str, kIsNot_tup, kIsNot_ref, opAdd_int, opAdd_str, opSub_int, opMul_int, opDiv_int, opMod_int, opPow_int, opAnd_int, opOr_int, opNeg_int, eChain_at, kc1_some, kc2_some, kc3_true, kc3_false, kc4_some, tOf_at, kTru_some, kTru2_some, truD_non, truD_bl, truD_int, truD_tup, tAnd_at, kAnd_true, kAnd_false, tOr_at, kOr_true, kOr_false, tNot_at, kNot_some, tYes_at, eAnd_at, keAnd_some, keAnd2_true, keAnd2_false, eOr_at, keOr_some, keOr2_true, keOr2_false, eNot_at, keNot_some, keNot2_some, eIf_at, keIf_true, keIf_false, aNil_at, aCons_at, ka1_some, ka2_some, eTup_at, kTup_0, kTup_1, kTup_2, kTup_3, kTup_4, kTup_5, kTup_6, eLst_at, kLst_0, kLst_1, kLst_2, kLst_3, kLst_4, eDic0_at, eCall_at, kCall_some, o1_at, isiO_at, kIsi_some, tyD_non, tyD_bl, tyD_int, tyD_str, tyD_tup, eBM_at, kbm1_some, kbm2_some, eSl_at, ks2_some, ks3_some, ks4_some, oNone_at, oSome_at, kSome_int, slO_str, sSeq_at, kSeq_nx, kSeq_rt, kSeq_bk, kSeq_ct, sNext_at, sBreak_at, sCont_at, sRetN_at, sRet_at, kRet_some, sExpr_at, kExpr_some, sSet_at, kSet_some, sIf_at, kIf_true, kIf_false, sPar2_k, kPar2_some, sPar3_k, kPar3_some, sAsg_at, kAsg_some, kAsg2_some, mName_at, mTup_2, mTup_3, mCons_at, kmCons_some, mNil_at, sPut_at, kp1_some, kp2_some, kp3_some, kp4_some, kFn_rt, kFn_nx, mkFn_0, mkFn_1, mkFn_2, mkFn_3, mkFn_4, mkFn_5, sWhile_at, List.getElem?_cons_zero, List.getElem?_cons_succ, List.set_cons_zero, List.set_cons_succ, List.replicate_succ, List.replicate_zero, Nat.reduceSub, Bool.not_true, Bool.not_false, ite_true, ite_false, if_true, if_false, reduceCtorEq, fldM_at, sFldM_at, kSF1_some, kSF2_some, kSF3_some, sFldAddM_at, kSA1_some, kSA2_int, eMake_at, kMk1_some, kMk2_some, isCM_at, isCO_non, eGet1_at, kG12_some, kG13_some, eGet2_at, kG22_some, kG23_some, eCallD_at, kCallD_some, eKdx_at, kKdx_some, kIsB_at, atI0, atI1, eq_str, ixO_tup, lenO_tup, mTup_2, List.cons.injEq, Nat.reduceEqDiff, decide_false, decide_true, and_false, and_true, false_and, true_and, Bool.or_false, Bool.or_true, Bool.true_or, Bool.false_or, Bool.and_true, Bool.and_false, Bool.false_and, Bool.true_and, Int.reduceLE, Int.reduceLT, rec_is w h, e1, askA] <;> rfl
theorem shut_goes (w : Wd ths st) (h : ths[i]? = some r) (hr : st[r]? = some (recG nm fr en at_ (.str sGoes))) : F_shut_down [.ref 4, th (i : Nat)] st = some (fK, st) := by
  have e1 := g_state hr
  simp only [F_shut_down, b_shut_down, eVar_at, kVar_some, eC_at, eBin_at, k2_some, k3_some, eUn_at, k1_some, kVal_some, kBl_some, kEq_at, kBlN_some, kNe_at, kIn_at, kNotIn_at, kIx_at, ixO_tup, kLt_int, kLe_int, kGt_int, kGe_int, kLt_str, kLe_str, kGt_str, kGe_str, kIs_non, kIs_bl, kIs_int, kIs_str, kIs_tup, kIs_ref, kIsNot_non, kIsNot_bl, kIsNot_int, kIsNot_str, kIsNot_tup, kIsNot_ref, opAdd_int, opAdd_str, opSub_int, opMul_int, opDiv_int, opMod_int, opPow_int, opAnd_int, opOr_int, opNeg_int, eChain_at, kc1_some, kc2_some, kc3_true, kc3_false, kc4_some, tOf_at, kTru_some, kTru2_some, truD_non, truD_bl, truD_int, truD_tup, tAnd_at, kAnd_true, kAnd_false, tOr_at, kOr_true, kOr_false, tNot_at, kNot_some, tYes_at, eAnd_at, keAnd_some, keAnd2_true, keAnd2_false, eOr_at, keOr_some, keOr2_true, keOr2_false, eNot_at, keNot_some, keNot2_some, eIf_at, keIf_true, keIf_false, aNil_at, aCons_at, ka1_some, ka2_some, eTup_at, kTup_0, kTup_1, kTup_2, kTup_3, kTup_4, kTup_5, kTup_6, eLst_at, kLst_0, kLst_1, kLst_2, kLst_3, kLst_4, eDic0_at, eCall_at, kCall_some, o1_at, isiO_at, kIsi_some, tyD_non, tyD_bl, tyD_int, tyD_str, tyD_tup, eBM_at, kbm1_some, kbm2_some, eSl_at, ks2_some, ks3_some, ks4_some, oNone_at, oSome_at, kSome_int, slO_str, sSeq_at, kSeq_nx, kSeq_rt, kSeq_bk, kSeq_ct, sNext_at, sBreak_at, sCont_at, sRetN_at, sRet_at, kRet_some, sExpr_at, kExpr_some, sSet_at, kSet_some, sIf_at, kIf_true, kIf_false, sPar2_k, kPar2_some, sPar3_k, kPar3_some, sAsg_at, kAsg_some, kAsg2_some, mName_at, mTup_2, mTup_3, mCons_at, kmCons_some, mNil_at, sPut_at, kp1_some, kp2_some, kp3_some, kp4_some, kFn_rt, kFn_nx, mkFn_0, mkFn_1, mkFn_2, mkFn_3, mkFn_4, mkFn_5, sWhile_at, List.getElem?_cons_zero, List.getElem?_cons_succ, List.set_cons_zero, List.set_cons_succ, List.replicate_succ, List.replicate_zero, Nat.reduceSub, Bool.not_true, Bool.not_false, ite_true, ite_false, if_true, if_false, reduceCtorEq, fldM_at, sFldM_at, kSF1_some, kSF2_some, kSF3_some, sFldAddM_at, kSA1_some, kSA2_int, eMake_at, kMk1_some, kMk2_some, isCM_at, isCO_non, eGet1_at, kG12_some, kG13_some, eGet2_at, kG22_some, kG23_some, eCallD_at, kCallD_some, eKdx_at, kKdx_some, kIsB_at, atI0, atI1, eq_str, ixO_tup, lenO_tup, mTup_2, List.cons.injEq, Nat.reduceEqDiff, decide_false, decide_true, and_false, and_true, false_and, true_and, Bool.or_false, Bool.or_true, Bool.true_or, Bool.false_or, Bool.and_true, Bool.and_false, Bool.false_and, Bool.true_and, Int.reduceLE, Int.reduceLT, rec_is w h, e1]
theorem shut_waits (w : Wd ths st) (h : ths[i]? = some r) (hr : st[r]? = some (recG nm fr en at_ (.str sWaits))) : F_shut_down [.ref 4, th (i : Nat)] st = some (.tup [.str [115, 104, 117, 116], th (i : Nat)], st) := by
  have e1 := g_state hr
  simp only [F_shut_down, b_shut_down, eVar_at, kVar_some, eC_at, eBin_at, k2_some, k3_some, eUn_at, k1_some, kVal_some, kBl_some, kEq_at, kBlN_some, kNe_at, kIn_at, kNotIn_at, kIx_at, ixO_tup, kLt_int, kLe_int, kGt_int, kGe_int, kLt_str, kLe_str, kGt_str, kGe_str, kIs_non, kIs_bl, kIs_int, kIs_str, kIs_tup, kIs_ref, kIsNot_non, kIsNot_bl, kIsNot_int, kIsNot_str, kIsNot_tup, kIsNot_ref, opAdd_int, opAdd_str, opSub_int, opMul_int, opDiv_int, opMod_int, opPow_int, opAnd_int, opOr_int, opNeg_int, eChain_at, kc1_some, kc2_some, kc3_true, kc3_false, kc4_some, tOf_at, kTru_some, kTru2_some, truD_non, truD_bl, truD_int, truD_tup, tAnd_at, kAnd_true, kAnd_false, tOr_at, kOr_true, kOr_false, tNot_at, kNot_some, tYes_at, eAnd_at, keAnd_some, keAnd2_true, keAnd2_false, eOr_at, keOr_some, keOr2_true, keOr2_false, eNot_at, keNot_some, keNot2_some, eIf_at, keIf_true, keIf_false, aNil_at, aCons_at, ka1_some, ka2_some, eTup_at, kTup_0, kTup_1, kTup_2, kTup_3, kTup_4, kTup_5, kTup_6, eLst_at, kLst_0, kLst_1, kLst_2, kLst_3, kLst_4, eDic0_at, eCall_at, kCall_some, o1_at, isiO_at, kIsi_some, tyD_non, tyD_bl, tyD_int, tyD_str, tyD_tup, eBM_at, kbm1_some, kbm2_some, eSl_at, ks2_some, ks3_some, ks4_some, oNone_at, oSome_at, kSome_int, slO_str, sSeq_at, kSeq_nx, kSeq_rt, kSeq_bk, kSeq_ct, sNext_at, sBreak_at, sCont_at, sRetN_at, sRet_at, kRet_some, sExpr_at, kExpr_some, sSet_at, kSet_some, sIf_at, kIf_true, kIf_false, sPar2_k, kPar2_some, sPar3_k, kPar3_some, sAsg_at, kAsg_some, kAsg2_some, mName_at, mTup_2, mTup_3, mCons_at, kmCons_some, mNil_at, sPut_at, kp1_some, kp2_some, kp3_some, kp4_some, kFn_rt, kFn_nx, mkFn_0, mkFn_1, mkFn_2, mkFn_3, mkFn_4, mkFn_5, sWhile_at, List.getElem?_cons_zero, List.getElem?_cons_succ, List.set_cons_zero, List.set_cons_succ, List.replicate_succ, List.replicate_zero, Nat.reduceSub, Bool.not_true, Bool.not_false, ite_true, ite_false, if_true, if_false, reduceCtorEq, fldM_at, sFldM_at, kSF1_some, kSF2_some, kSF3_some, sFldAddM_at, kSA1_some, kSA2_int, eMake_at, kMk1_some, kMk2_some, isCM_at, isCO_non, eGet1_at, kG12_some, kG13_some, eGet2_at, kG22_some, kG23_some, eCallD_at, kCallD_some, eKdx_at, kKdx_some, kIsB_at, atI0, atI1, eq_str, ixO_tup, lenO_tup, mTup_2, List.cons.injEq, Nat.reduceEqDiff, decide_false, decide_true, and_false, and_true, false_and, true_and, Bool.or_false, Bool.or_true, Bool.true_or, Bool.false_or, Bool.and_true, Bool.and_false, Bool.false_and, Bool.true_and, Int.reduceLE, Int.reduceLT, rec_is w h, e1]
theorem shut_else (w : Wd ths st) (h : ths[i]? = some r) (hr : st[r]? = some (recG nm fr en at_ (.str s))) (h1 : s ≠ sGoes) (h2 : s ≠ sWaits) : F_shut_down [.ref 4, th (i : Nat)] st = some (.tup [.str [118, 97, 108, 117, 101], aNo], st.set r (recG nm fr en at_ (.str sOver))) := by
  have e1 := g_state hr
  have e2 := s_state hr (.str sOver)
  simp only [F_shut_down, b_shut_down, eVar_at, kVar_some, eC_at, eBin_at, k2_some, k3_some, eUn_at, k1_some, kVal_some, kBl_some, kEq_at, kBlN_some, kNe_at, kIn_at, kNotIn_at, kIx_at, ixO_tup, kLt_int, kLe_int, kGt_int, kGe_int, kLt_str, kLe_str, kGt_str, kGe_str, kIs_non, kIs_bl, kIs_int, kIs_str, kIs_tup, kIs_ref, kIsNot_non, kIsNot_bl, kIsNot_int, kIsNot_str, kIsNot_tup, kIsNot_ref, opAdd_int, opAdd_str, opSub_int, opMul_int, opDiv_int, opMod_int, opPow_int, opAnd_int, opOr_int, opNeg_int, eChain_at, kc1_some, kc2_some, kc3_true, kc3_false, kc4_some, tOf_at, kTru_some, kTru2_some, truD_non, truD_bl, truD_int, truD_tup, tAnd_at, kAnd_true, kAnd_false, tOr_at, kOr_true, kOr_false, tNot_at, kNot_some, tYes_at, eAnd_at, keAnd_some, keAnd2_true, keAnd2_false, eOr_at, keOr_some, keOr2_true, keOr2_false, eNot_at, keNot_some, keNot2_some, eIf_at, keIf_true, keIf_false, aNil_at, aCons_at, ka1_some, ka2_some, eTup_at, kTup_0, kTup_1, kTup_2, kTup_3, kTup_4, kTup_5, kTup_6, eLst_at, kLst_0, kLst_1, kLst_2, kLst_3, kLst_4, eDic0_at, eCall_at, kCall_some, o1_at, isiO_at, kIsi_some, tyD_non, tyD_bl, tyD_int, tyD_str, tyD_tup, eBM_at, kbm1_some, kbm2_some, eSl_at, ks2_some, ks3_some, ks4_some, oNone_at, oSome_at, kSome_int, slO_str, sSeq_at, kSeq_nx, kSeq_rt, kSeq_bk, kSeq_ct, sNext_at, sBreak_at, sCont_at, sRetN_at, sRet_at, kRet_some, sExpr_at, kExpr_some, sSet_at, kSet_some, sIf_at, kIf_true, kIf_false, sPar2_k, kPar2_some, sPar3_k, kPar3_some, sAsg_at, kAsg_some, kAsg2_some, mName_at, mTup_2, mTup_3, mCons_at, kmCons_some, mNil_at, sPut_at, kp1_some, kp2_some, kp3_some, kp4_some, kFn_rt, kFn_nx, mkFn_0, mkFn_1, mkFn_2, mkFn_3, mkFn_4, mkFn_5, sWhile_at, List.getElem?_cons_zero, List.getElem?_cons_succ, List.set_cons_zero, List.set_cons_succ, List.replicate_succ, List.replicate_zero, Nat.reduceSub, Bool.not_true, Bool.not_false, ite_true, ite_false, if_true, if_false, reduceCtorEq, fldM_at, sFldM_at, kSF1_some, kSF2_some, kSF3_some, sFldAddM_at, kSA1_some, kSA2_int, eMake_at, kMk1_some, kMk2_some, isCM_at, isCO_non, eGet1_at, kG12_some, kG13_some, eGet2_at, kG22_some, kG23_some, eCallD_at, kCallD_some, eKdx_at, kKdx_some, kIsB_at, atI0, atI1, eq_str, ixO_tup, lenO_tup, mTup_2, List.cons.injEq, Nat.reduceEqDiff, decide_false, decide_true, and_false, and_true, false_and, true_and, Bool.or_false, Bool.or_true, Bool.true_or, Bool.false_or, Bool.and_true, Bool.and_false, Bool.false_and, Bool.true_and, Int.reduceLE, Int.reduceLT, rec_is w h, e1, e2, h1, h2]
theorem counted_over (w : Wd ths st) (h : ths[i]? = some r) {a e : Int} (hr : st[r]? = some (recG nm fr (.int e) (.int a) (.str s))) (hl : e ≤ a) : F_counted_on [.ref 4, th (i : Nat)] st = some (.tup [.str [111, 118, 101, 114]], st.set r (recG nm fr (.int e) (.int a) (.str sOver))) := by
  have e1 := g_end hr
  have e2 := g_at hr
  have e3 := s_state hr (.str sOver)
  simp only [F_counted_on, b_counted_on, eVar_at, kVar_some, eC_at, eBin_at, k2_some, k3_some, eUn_at, k1_some, kVal_some, kBl_some, kEq_at, kBlN_some, kNe_at, kIn_at, kNotIn_at, kIx_at, ixO_tup, kLt_int, kLe_int, kGt_int, kGe_int, kLt_str, kLe_str, kGt_str, kGe_str, kIs_non, kIs_bl, kIs_int, kIs_str, kIs_tup, kIs_ref, kIsNot_non, kIsNot_bl, kIsNot_int, kIsNot_str, kIsNot_tup, kIsNot_ref, opAdd_int, opAdd_str, opSub_int, opMul_int, opDiv_int, opMod_int, opPow_int, opAnd_int, opOr_int, opNeg_int, eChain_at, kc1_some, kc2_some, kc3_true, kc3_false, kc4_some, tOf_at, kTru_some, kTru2_some, truD_non, truD_bl, truD_int, truD_tup, tAnd_at, kAnd_true, kAnd_false, tOr_at, kOr_true, kOr_false, tNot_at, kNot_some, tYes_at, eAnd_at, keAnd_some, keAnd2_true, keAnd2_false, eOr_at, keOr_some, keOr2_true, keOr2_false, eNot_at, keNot_some, keNot2_some, eIf_at, keIf_true, keIf_false, aNil_at, aCons_at, ka1_some, ka2_some, eTup_at, kTup_0, kTup_1, kTup_2, kTup_3, kTup_4, kTup_5, kTup_6, eLst_at, kLst_0, kLst_1, kLst_2, kLst_3, kLst_4, eDic0_at, eCall_at, kCall_some, o1_at, isiO_at, kIsi_some, tyD_non, tyD_bl, tyD_int, tyD_str, tyD_tup, eBM_at, kbm1_some, kbm2_some, eSl_at, ks2_some, ks3_some, ks4_some, oNone_at, oSome_at, kSome_int, slO_str, sSeq_at, kSeq_nx, kSeq_rt, kSeq_bk, kSeq_ct, sNext_at, sBreak_at, sCont_at, sRetN_at, sRet_at, kRet_some, sExpr_at, kExpr_some, sSet_at, kSet_some, sIf_at, kIf_true, kIf_false, sPar2_k, kPar2_some, sPar3_k, kPar3_some, sAsg_at, kAsg_some, kAsg2_some, mName_at, mTup_2, mTup_3, mCons_at, kmCons_some, mNil_at, sPut_at, kp1_some, kp2_some, kp3_some, kp4_some, kFn_rt, kFn_nx, mkFn_0, mkFn_1, mkFn_2, mkFn_3, mkFn_4, mkFn_5, sWhile_at, List.getElem?_cons_zero, List.getElem?_cons_succ, List.set_cons_zero, List.set_cons_succ, List.replicate_succ, List.replicate_zero, Nat.reduceSub, Bool.not_true, Bool.not_false, ite_true, ite_false, if_true, if_false, reduceCtorEq, fldM_at, sFldM_at, kSF1_some, kSF2_some, kSF3_some, sFldAddM_at, kSA1_some, kSA2_int, eMake_at, kMk1_some, kMk2_some, isCM_at, isCO_non, eGet1_at, kG12_some, kG13_some, eGet2_at, kG22_some, kG23_some, eCallD_at, kCallD_some, eKdx_at, kKdx_some, kIsB_at, atI0, atI1, eq_str, ixO_tup, lenO_tup, mTup_2, List.cons.injEq, Nat.reduceEqDiff, decide_false, decide_true, and_false, and_true, false_and, true_and, Bool.or_false, Bool.or_true, Bool.true_or, Bool.false_or, Bool.and_true, Bool.and_false, Bool.false_and, Bool.true_and, Int.reduceLE, Int.reduceLT, rec_is w h, e1, e2, e3, hl]
theorem counted_on (w : Wd ths st) (h : ths[i]? = some r) {a e : Int} (hr : st[r]? = some (recG nm fr (.int e) (.int a) (.str s))) (hl : ¬ e ≤ a) : F_counted_on [.ref 4, th (i : Nat)] st = some (.tup [.str [118, 97, 108, 117, 101], .tup [.str [110, 117, 109, 98, 101, 114], .int a]], st.set r (recG nm fr (.int e) (.int (a + 1)) (.str sWaits))) := by
  have hlt : r < st.length := (List.getElem?_eq_some_iff.mp hr).1
  have e1 := g_end hr
  have e2 := g_at hr
  have e3 := s_state hr (.str sWaits)
  have hr2 : (st.set r (recG nm fr (.int e) (.int a) (.str sWaits)))[r]? = some (recG nm fr (.int e) (.int a) (.str sWaits)) := List.getElem?_set_self hlt
  have e4 := g_at hr2
  have e5 := s_at hr2 (.int (a + 1))
  rw [List.set_set] at e5
  have hr3 : (st.set r (recG nm fr (.int e) (.int (a + 1)) (.str sWaits)))[r]? = some (recG nm fr (.int e) (.int (a + 1)) (.str sWaits)) := List.getElem?_set_self hlt
  have e6 := g_at hr3
  have e7 : a + 1 - 1 = a := by omega
  simp only [F_counted_on, b_counted_on, eVar_at, kVar_some, eC_at, eBin_at, k2_some, k3_some, eUn_at, k1_some, kVal_some, kBl_some, kEq_at, kBlN_some, kNe_at, kIn_at, kNotIn_at, kIx_at, ixO_tup, kLt_int, kLe_int, kGt_int, kGe_int, kLt_str, kLe_str, kGt_str, kGe_str, kIs_non, kIs_bl, kIs_int, kIs_str, kIs_tup, kIs_ref, kIsNot_non, kIsNot_bl, kIsNot_int, kIsNot_str, kIsNot_tup, kIsNot_ref, opAdd_int, opAdd_str, opSub_int, opMul_int, opDiv_int, opMod_int, opPow_int, opAnd_int, opOr_int, opNeg_int, eChain_at, kc1_some, kc2_some, kc3_true, kc3_false, kc4_some, tOf_at, kTru_some, kTru2_some, truD_non, truD_bl, truD_int, truD_tup, tAnd_at, kAnd_true, kAnd_false, tOr_at, kOr_true, kOr_false, tNot_at, kNot_some, tYes_at, eAnd_at, keAnd_some, keAnd2_true, keAnd2_false, eOr_at, keOr_some, keOr2_true, keOr2_false, eNot_at, keNot_some, keNot2_some, eIf_at, keIf_true, keIf_false, aNil_at, aCons_at, ka1_some, ka2_some, eTup_at, kTup_0, kTup_1, kTup_2, kTup_3, kTup_4, kTup_5, kTup_6, eLst_at, kLst_0, kLst_1, kLst_2, kLst_3, kLst_4, eDic0_at, eCall_at, kCall_some, o1_at, isiO_at, kIsi_some, tyD_non, tyD_bl, tyD_int, tyD_str, tyD_tup, eBM_at, kbm1_some, kbm2_some, eSl_at, ks2_some, ks3_some, ks4_some, oNone_at, oSome_at, kSome_int, slO_str, sSeq_at, kSeq_nx, kSeq_rt, kSeq_bk, kSeq_ct, sNext_at, sBreak_at, sCont_at, sRetN_at, sRet_at, kRet_some, sExpr_at, kExpr_some, sSet_at, kSet_some, sIf_at, kIf_true, kIf_false, sPar2_k, kPar2_some, sPar3_k, kPar3_some, sAsg_at, kAsg_some, kAsg2_some, mName_at, mTup_2, mTup_3, mCons_at, kmCons_some, mNil_at, sPut_at, kp1_some, kp2_some, kp3_some, kp4_some, kFn_rt, kFn_nx, mkFn_0, mkFn_1, mkFn_2, mkFn_3, mkFn_4, mkFn_5, sWhile_at, List.getElem?_cons_zero, List.getElem?_cons_succ, List.set_cons_zero, List.set_cons_succ, List.replicate_succ, List.replicate_zero, Nat.reduceSub, Bool.not_true, Bool.not_false, ite_true, ite_false, if_true, if_false, reduceCtorEq, fldM_at, sFldM_at, kSF1_some, kSF2_some, kSF3_some, sFldAddM_at, kSA1_some, kSA2_int, eMake_at, kMk1_some, kMk2_some, isCM_at, isCO_non, eGet1_at, kG12_some, kG13_some, eGet2_at, kG22_some, kG23_some, eCallD_at, kCallD_some, eKdx_at, kKdx_some, kIsB_at, atI0, atI1, eq_str, ixO_tup, lenO_tup, mTup_2, List.cons.injEq, Nat.reduceEqDiff, decide_false, decide_true, and_false, and_true, false_and, true_and, Bool.or_false, Bool.or_true, Bool.true_or, Bool.false_or, Bool.and_true, Bool.and_false, Bool.false_and, Bool.true_and, Int.reduceLE, Int.reduceLT, rec_is w h, e1, e2, e3, e4, e5, e6, e7, hl]
end
/-! called -/
def given (n : List Nat) : Ob := .ins 2 [("name", .str n)]
section
variable {ths : List Nat} {st : Sto} (w : Wd ths st)
include w
theorem ths_fix {i r : Nat} (h : THS[i]? = some r) : ths[i]? = some r := by
  obtain ⟨more, e⟩ := w.h
  rw [e, List.getElem?_append_left (List.getElem?_eq_some_iff.mp h).1]
  exact h
theorem called_to {i r : Nat} {n : List Nat} {x : D} (h : ths[i]? = some r) (hr : st[r]? = some (given n)) : F_called [.ref 4, th (i : Nat), x] st = F_called_given [.ref 4, .str n, x] st := by
  have c1 : isCO [1] 9 (.ref r) st = some false := isCO_ins hr (by decide)
  have c2 : isCO [3] 9 (.ref r) st = some false := isCO_ins hr (by decide)
  have c3 : isCO [4] 9 (.ref r) st = some false := isCO_ins hr (by decide)
  have c4 : isCO [2] 9 (.ref r) st = some true := isCO_ins hr (by decide)
  have c5 : fldO [1, 2, 4, 6] "name" (.ref r) st = some (.str n) := fldO_ins hr (by decide) (by rfl)
  simp only [F_called, b_called, eVar_at, kVar_some, eC_at, eBin_at, k2_some, k3_some, eUn_at, k1_some, kVal_some, kBl_some, kEq_at, kBlN_some, kNe_at, kIn_at, kNotIn_at, kIx_at, ixO_tup, kLt_int, kLe_int, kGt_int, kGe_int, kLt_str, kLe_str, kGt_str, kGe_str, kIs_non, kIs_bl, kIs_int, kIs_str, kIs_tup, kIs_ref, kIsNot_non, kIsNot_bl, kIsNot_int, kIsNot_str, kIsNot_tup, kIsNot_ref, opAdd_int, opAdd_str, opSub_int, opMul_int, opDiv_int, opMod_int, opPow_int, opAnd_int, opOr_int, opNeg_int, eChain_at, kc1_some, kc2_some, kc3_true, kc3_false, kc4_some, tOf_at, kTru_some, kTru2_some, truD_non, truD_bl, truD_int, truD_tup, tAnd_at, kAnd_true, kAnd_false, tOr_at, kOr_true, kOr_false, tNot_at, kNot_some, tYes_at, eAnd_at, keAnd_some, keAnd2_true, keAnd2_false, eOr_at, keOr_some, keOr2_true, keOr2_false, eNot_at, keNot_some, keNot2_some, eIf_at, keIf_true, keIf_false, aNil_at, aCons_at, ka1_some, ka2_some, eTup_at, kTup_0, kTup_1, kTup_2, kTup_3, kTup_4, kTup_5, kTup_6, eLst_at, kLst_0, kLst_1, kLst_2, kLst_3, kLst_4, eDic0_at, eCall_at, kCall_some, o1_at, isiO_at, kIsi_some, tyD_non, tyD_bl, tyD_int, tyD_str, tyD_tup, eBM_at, kbm1_some, kbm2_some, eSl_at, ks2_some, ks3_some, ks4_some, oNone_at, oSome_at, kSome_int, slO_str, sSeq_at, kSeq_nx, kSeq_rt, kSeq_bk, kSeq_ct, sNext_at, sBreak_at, sCont_at, sRetN_at, sRet_at, kRet_some, sExpr_at, kExpr_some, sSet_at, kSet_some, sIf_at, kIf_true, kIf_false, sPar2_k, kPar2_some, sPar3_k, kPar3_some, sAsg_at, kAsg_some, kAsg2_some, mName_at, mTup_2, mTup_3, mCons_at, kmCons_some, mNil_at, sPut_at, kp1_some, kp2_some, kp3_some, kp4_some, kFn_rt, kFn_nx, mkFn_0, mkFn_1, mkFn_2, mkFn_3, mkFn_4, mkFn_5, sWhile_at, List.getElem?_cons_zero, List.getElem?_cons_succ, List.set_cons_zero, List.set_cons_succ, List.replicate_succ, List.replicate_zero, Nat.reduceSub, Bool.not_true, Bool.not_false, ite_true, ite_false, if_true, if_false, reduceCtorEq, fldM_at, sFldM_at, kSF1_some, kSF2_some, kSF3_some, sFldAddM_at, kSA1_some, kSA2_int, eMake_at, kMk1_some, kMk2_some, isCM_at, isCO_non, eGet1_at, kG12_some, kG13_some, eGet2_at, kG22_some, kG23_some, eCallD_at, kCallD_some, eKdx_at, kKdx_some, kIsB_at, atI0, atI1, eq_str, ixO_tup, lenO_tup, mTup_2, List.cons.injEq, Nat.reduceEqDiff, decide_false, decide_true, and_false, and_true, false_and, true_and, Bool.or_false, Bool.or_true, Bool.true_or, Bool.false_or, Bool.and_true, Bool.and_false, Bool.false_and, Bool.true_and, Int.reduceLE, Int.reduceLT, rec_is w h, c1, c2, c3, c4, c5]
  cases F_called_given [.ref 4, .str n, x] st with
  | none => rfl
  | some p => rfl
end


theorem tab_go : List.lookup [103, 111] [([115, 97, 121], D.tup [.int 1, .int 1]), ([116, 97, 107, 101], D.tup [.int 0, .int 0]), ([105, 115, 97], D.tup [.int 2, .int 2]), ([101, 108, 100, 101, 114], D.tup [.int 2, .int 2]), ([99, 111, 117, 110, 116], D.tup [.int 1, .int 1]), ([103, 111], D.tup [.int 1, .int 2]), ([116, 104, 114, 111, 119], D.tup [.int 2, .int 2]), ([115, 104, 117, 116], D.tup [.int 1, .int 1])] = some (D.tup [.int 1, .int 2]) := by rfl
theorem tab_throw : List.lookup [116, 104, 114, 111, 119] [([115, 97, 121], D.tup [.int 1, .int 1]), ([116, 97, 107, 101], D.tup [.int 0, .int 0]), ([105, 115, 97], D.tup [.int 2, .int 2]), ([101, 108, 100, 101, 114], D.tup [.int 2, .int 2]), ([99, 111, 117, 110, 116], D.tup [.int 1, .int 1]), ([103, 111], D.tup [.int 1, .int 2]), ([116, 104, 114, 111, 119], D.tup [.int 2, .int 2]), ([115, 104, 117, 116], D.tup [.int 1, .int 1])] = some (D.tup [.int 2, .int 2]) := by rfl
theorem tab_shut : List.lookup [115, 104, 117, 116] [([115, 97, 121], D.tup [.int 1, .int 1]), ([116, 97, 107, 101], D.tup [.int 0, .int 0]), ([105, 115, 97], D.tup [.int 2, .int 2]), ([101, 108, 100, 101, 114], D.tup [.int 2, .int 2]), ([99, 111, 117, 110, 116], D.tup [.int 1, .int 1]), ([103, 111], D.tup [.int 1, .int 2]), ([116, 104, 114, 111, 119], D.tup [.int 2, .int 2]), ([115, 104, 117, 116], D.tup [.int 1, .int 1])] = some (D.tup [.int 1, .int 1]) := by rfl
theorem tab_count : List.lookup [99, 111, 117, 110, 116] [([115, 97, 121], D.tup [.int 1, .int 1]), ([116, 97, 107, 101], D.tup [.int 0, .int 0]), ([105, 115, 97], D.tup [.int 2, .int 2]), ([101, 108, 100, 101, 114], D.tup [.int 2, .int 2]), ([99, 111, 117, 110, 116], D.tup [.int 1, .int 1]), ([103, 111], D.tup [.int 1, .int 2]), ([116, 104, 114, 111, 119], D.tup [.int 2, .int 2]), ([115, 104, 117, 116], D.tup [.int 1, .int 1])] = some (D.tup [.int 1, .int 1]) := by rfl
section
variable {ths : List Nat} {st : Sto}
theorem given_few {n : List Nat} {lo hi : Int} {vs : List D} (ht : List.lookup n [([115, 97, 121], D.tup [.int 1, .int 1]), ([116, 97, 107, 101], D.tup [.int 0, .int 0]), ([105, 115, 97], D.tup [.int 2, .int 2]), ([101, 108, 100, 101, 114], D.tup [.int 2, .int 2]), ([99, 111, 117, 110, 116], D.tup [.int 1, .int 1]), ([103, 111], D.tup [.int 1, .int 2]), ([116, 104, 114, 111, 119], D.tup [.int 2, .int 2]), ([115, 104, 117, 116], D.tup [.int 1, .int 1])] = some (D.tup [.int lo, .int hi])) (h : ¬ (lo ≤ (vs.length : Int) ∧ (vs.length : Int) ≤ hi)) : F_called_given [.ref 4, .str n, .tup vs] st = some (fK, st) := by
  by_cases h1 : lo ≤ (vs.length : Int)
  · have h2 : ¬ (vs.length : Int) ≤ hi := fun z => h ⟨h1, z⟩
    simp only [F_called_given, b_called_given, eVar_at, kVar_some, eC_at, eBin_at, k2_some, k3_some, eUn_at, k1_some, kVal_some, kBl_some, kEq_at, kBlN_some, kNe_at, kIn_at, kNotIn_at, kIx_at, ixO_tup, kLt_int, kLe_int, kGt_int, kGe_int, kLt_str, kLe_str, kGt_str, kGe_str, kIs_non, kIs_bl, kIs_int, kIs_str, kIs_tup, kIs_ref, kIsNot_non, kIsNot_bl, kIsNot_int, kIsNot_str, kIsNot_tup, kIsNot_ref, opAdd_int, opAdd_str, opSub_int, opMul_int, opDiv_int, opMod_int, opPow_int, opAnd_int, opOr_int, opNeg_int, eChain_at, kc1_some, kc2_some, kc3_true, kc3_false, kc4_some, tOf_at, kTru_some, kTru2_some, truD_non, truD_bl, truD_int, truD_tup, tAnd_at, kAnd_true, kAnd_false, tOr_at, kOr_true, kOr_false, tNot_at, kNot_some, tYes_at, eAnd_at, keAnd_some, keAnd2_true, keAnd2_false, eOr_at, keOr_some, keOr2_true, keOr2_false, eNot_at, keNot_some, keNot2_some, eIf_at, keIf_true, keIf_false, aNil_at, aCons_at, ka1_some, ka2_some, eTup_at, kTup_0, kTup_1, kTup_2, kTup_3, kTup_4, kTup_5, kTup_6, eLst_at, kLst_0, kLst_1, kLst_2, kLst_3, kLst_4, eDic0_at, eCall_at, kCall_some, o1_at, isiO_at, kIsi_some, tyD_non, tyD_bl, tyD_int, tyD_str, tyD_tup, eBM_at, kbm1_some, kbm2_some, eSl_at, ks2_some, ks3_some, ks4_some, oNone_at, oSome_at, kSome_int, slO_str, sSeq_at, kSeq_nx, kSeq_rt, kSeq_bk, kSeq_ct, sNext_at, sBreak_at, sCont_at, sRetN_at, sRet_at, kRet_some, sExpr_at, kExpr_some, sSet_at, kSet_some, sIf_at, kIf_true, kIf_false, sPar2_k, kPar2_some, sPar3_k, kPar3_some, sAsg_at, kAsg_some, kAsg2_some, mName_at, mTup_2, mTup_3, mCons_at, kmCons_some, mNil_at, sPut_at, kp1_some, kp2_some, kp3_some, kp4_some, kFn_rt, kFn_nx, mkFn_0, mkFn_1, mkFn_2, mkFn_3, mkFn_4, mkFn_5, sWhile_at, List.getElem?_cons_zero, List.getElem?_cons_succ, List.set_cons_zero, List.set_cons_succ, List.replicate_succ, List.replicate_zero, Nat.reduceSub, Bool.not_true, Bool.not_false, ite_true, ite_false, if_true, if_false, reduceCtorEq, fldM_at, sFldM_at, kSF1_some, kSF2_some, kSF3_some, sFldAddM_at, kSA1_some, kSA2_int, eMake_at, kMk1_some, kMk2_some, isCM_at, isCO_non, eGet1_at, kG12_some, kG13_some, eGet2_at, kG22_some, kG23_some, eCallD_at, kCallD_some, eKdx_at, kKdx_some, kIsB_at, atI0, atI1, eq_str, ixO_tup, lenO_tup, mTup_2, List.cons.injEq, Nat.reduceEqDiff, decide_false, decide_true, and_false, and_true, false_and, true_and, Bool.or_false, Bool.or_true, Bool.true_or, Bool.false_or, Bool.and_true, Bool.and_false, Bool.false_and, Bool.true_and, Int.reduceLE, Int.reduceLT, ht, h1, h2]
  · simp only [F_called_given, b_called_given, eVar_at, kVar_some, eC_at, eBin_at, k2_some, k3_some, eUn_at, k1_some, kVal_some, kBl_some, kEq_at, kBlN_some, kNe_at, kIn_at, kNotIn_at, kIx_at, ixO_tup, kLt_int, kLe_int, kGt_int, kGe_int, kLt_str, kLe_str, kGt_str, kGe_str, kIs_non, kIs_bl, kIs_int, kIs_str, kIs_tup, kIs_ref, kIsNot_non, kIsNot_bl, kIsNot_int, kIsNot_str, kIsNot_tup, kIsNot_ref, opAdd_int, opAdd_str, opSub_int, opMul_int, opDiv_int, opMod_int, opPow_int, opAnd_int, opOr_int, opNeg_int, eChain_at, kc1_some, kc2_some, kc3_true, kc3_false, kc4_some, tOf_at, kTru_some, kTru2_some, truD_non, truD_bl, truD_int, truD_tup, tAnd_at, kAnd_true, kAnd_false, tOr_at, kOr_true, kOr_false, tNot_at, kNot_some, tYes_at, eAnd_at, keAnd_some, keAnd2_true, keAnd2_false, eOr_at, keOr_some, keOr2_true, keOr2_false, eNot_at, keNot_some, keNot2_some, eIf_at, keIf_true, keIf_false, aNil_at, aCons_at, ka1_some, ka2_some, eTup_at, kTup_0, kTup_1, kTup_2, kTup_3, kTup_4, kTup_5, kTup_6, eLst_at, kLst_0, kLst_1, kLst_2, kLst_3, kLst_4, eDic0_at, eCall_at, kCall_some, o1_at, isiO_at, kIsi_some, tyD_non, tyD_bl, tyD_int, tyD_str, tyD_tup, eBM_at, kbm1_some, kbm2_some, eSl_at, ks2_some, ks3_some, ks4_some, oNone_at, oSome_at, kSome_int, slO_str, sSeq_at, kSeq_nx, kSeq_rt, kSeq_bk, kSeq_ct, sNext_at, sBreak_at, sCont_at, sRetN_at, sRet_at, kRet_some, sExpr_at, kExpr_some, sSet_at, kSet_some, sIf_at, kIf_true, kIf_false, sPar2_k, kPar2_some, sPar3_k, kPar3_some, sAsg_at, kAsg_some, kAsg2_some, mName_at, mTup_2, mTup_3, mCons_at, kmCons_some, mNil_at, sPut_at, kp1_some, kp2_some, kp3_some, kp4_some, kFn_rt, kFn_nx, mkFn_0, mkFn_1, mkFn_2, mkFn_3, mkFn_4, mkFn_5, sWhile_at, List.getElem?_cons_zero, List.getElem?_cons_succ, List.set_cons_zero, List.set_cons_succ, List.replicate_succ, List.replicate_zero, Nat.reduceSub, Bool.not_true, Bool.not_false, ite_true, ite_false, if_true, if_false, reduceCtorEq, fldM_at, sFldM_at, kSF1_some, kSF2_some, kSF3_some, sFldAddM_at, kSA1_some, kSA2_int, eMake_at, kMk1_some, kMk2_some, isCM_at, isCO_non, eGet1_at, kG12_some, kG13_some, eGet2_at, kG22_some, kG23_some, eCallD_at, kCallD_some, eKdx_at, kKdx_some, kIsB_at, atI0, atI1, eq_str, ixO_tup, lenO_tup, mTup_2, List.cons.injEq, Nat.reduceEqDiff, decide_false, decide_true, and_false, and_true, false_and, true_and, Bool.or_false, Bool.or_true, Bool.true_or, Bool.false_or, Bool.and_true, Bool.and_false, Bool.false_and, Bool.true_and, Int.reduceLE, Int.reduceLT, ht, h1]
theorem given_go {vs : List D} (h1 : 1 ≤ (vs.length : Int)) (h2 : (vs.length : Int) ≤ 2) : F_called_given [.ref 4, .str [103, 111], .tup vs] st = F_called_giver [.ref 4, .str [103, 111], .tup vs] st := by
  simp only [F_called_given, b_called_given, eVar_at, kVar_some, eC_at, eBin_at, k2_some, k3_some, eUn_at, k1_some, kVal_some, kBl_some, kEq_at, kBlN_some, kNe_at, kIn_at, kNotIn_at, kIx_at, ixO_tup, kLt_int, kLe_int, kGt_int, kGe_int, kLt_str, kLe_str, kGt_str, kGe_str, kIs_non, kIs_bl, kIs_int, kIs_str, kIs_tup, kIs_ref, kIsNot_non, kIsNot_bl, kIsNot_int, kIsNot_str, kIsNot_tup, kIsNot_ref, opAdd_int, opAdd_str, opSub_int, opMul_int, opDiv_int, opMod_int, opPow_int, opAnd_int, opOr_int, opNeg_int, eChain_at, kc1_some, kc2_some, kc3_true, kc3_false, kc4_some, tOf_at, kTru_some, kTru2_some, truD_non, truD_bl, truD_int, truD_tup, tAnd_at, kAnd_true, kAnd_false, tOr_at, kOr_true, kOr_false, tNot_at, kNot_some, tYes_at, eAnd_at, keAnd_some, keAnd2_true, keAnd2_false, eOr_at, keOr_some, keOr2_true, keOr2_false, eNot_at, keNot_some, keNot2_some, eIf_at, keIf_true, keIf_false, aNil_at, aCons_at, ka1_some, ka2_some, eTup_at, kTup_0, kTup_1, kTup_2, kTup_3, kTup_4, kTup_5, kTup_6, eLst_at, kLst_0, kLst_1, kLst_2, kLst_3, kLst_4, eDic0_at, eCall_at, kCall_some, o1_at, isiO_at, kIsi_some, tyD_non, tyD_bl, tyD_int, tyD_str, tyD_tup, eBM_at, kbm1_some, kbm2_some, eSl_at, ks2_some, ks3_some, ks4_some, oNone_at, oSome_at, kSome_int, slO_str, sSeq_at, kSeq_nx, kSeq_rt, kSeq_bk, kSeq_ct, sNext_at, sBreak_at, sCont_at, sRetN_at, sRet_at, kRet_some, sExpr_at, kExpr_some, sSet_at, kSet_some, sIf_at, kIf_true, kIf_false, sPar2_k, kPar2_some, sPar3_k, kPar3_some, sAsg_at, kAsg_some, kAsg2_some, mName_at, mTup_2, mTup_3, mCons_at, kmCons_some, mNil_at, sPut_at, kp1_some, kp2_some, kp3_some, kp4_some, kFn_rt, kFn_nx, mkFn_0, mkFn_1, mkFn_2, mkFn_3, mkFn_4, mkFn_5, sWhile_at, List.getElem?_cons_zero, List.getElem?_cons_succ, List.set_cons_zero, List.set_cons_succ, List.replicate_succ, List.replicate_zero, Nat.reduceSub, Bool.not_true, Bool.not_false, ite_true, ite_false, if_true, if_false, reduceCtorEq, fldM_at, sFldM_at, kSF1_some, kSF2_some, kSF3_some, sFldAddM_at, kSA1_some, kSA2_int, eMake_at, kMk1_some, kMk2_some, isCM_at, isCO_non, eGet1_at, kG12_some, kG13_some, eGet2_at, kG22_some, kG23_some, eCallD_at, kCallD_some, eKdx_at, kKdx_some, kIsB_at, atI0, atI1, eq_str, ixO_tup, lenO_tup, mTup_2, List.cons.injEq, Nat.reduceEqDiff, decide_false, decide_true, and_false, and_true, false_and, true_and, Bool.or_false, Bool.or_true, Bool.true_or, Bool.false_or, Bool.and_true, Bool.and_false, Bool.false_and, Bool.true_and, Int.reduceLE, Int.reduceLT, tab_go, h1, h2]
  cases F_called_giver [.ref 4, .str [103, 111], .tup vs] st <;> rfl
theorem given_throw {vs : List D} (h1 : 2 ≤ (vs.length : Int)) (h2 : (vs.length : Int) ≤ 2) : F_called_given [.ref 4, .str [116, 104, 114, 111, 119], .tup vs] st = F_called_giver [.ref 4, .str [116, 104, 114, 111, 119], .tup vs] st := by
  simp only [F_called_given, b_called_given, eVar_at, kVar_some, eC_at, eBin_at, k2_some, k3_some, eUn_at, k1_some, kVal_some, kBl_some, kEq_at, kBlN_some, kNe_at, kIn_at, kNotIn_at, kIx_at, ixO_tup, kLt_int, kLe_int, kGt_int, kGe_int, kLt_str, kLe_str, kGt_str, kGe_str, kIs_non, kIs_bl, kIs_int, kIs_str, kIs_tup, kIs_ref, kIsNot_non, kIsNot_bl, kIsNot_int, kIsNot_str, kIsNot_tup, kIsNot_ref, opAdd_int, opAdd_str, opSub_int, opMul_int, opDiv_int, opMod_int, opPow_int, opAnd_int, opOr_int, opNeg_int, eChain_at, kc1_some, kc2_some, kc3_true, kc3_false, kc4_some, tOf_at, kTru_some, kTru2_some, truD_non, truD_bl, truD_int, truD_tup, tAnd_at, kAnd_true, kAnd_false, tOr_at, kOr_true, kOr_false, tNot_at, kNot_some, tYes_at, eAnd_at, keAnd_some, keAnd2_true, keAnd2_false, eOr_at, keOr_some, keOr2_true, keOr2_false, eNot_at, keNot_some, keNot2_some, eIf_at, keIf_true, keIf_false, aNil_at, aCons_at, ka1_some, ka2_some, eTup_at, kTup_0, kTup_1, kTup_2, kTup_3, kTup_4, kTup_5, kTup_6, eLst_at, kLst_0, kLst_1, kLst_2, kLst_3, kLst_4, eDic0_at, eCall_at, kCall_some, o1_at, isiO_at, kIsi_some, tyD_non, tyD_bl, tyD_int, tyD_str, tyD_tup, eBM_at, kbm1_some, kbm2_some, eSl_at, ks2_some, ks3_some, ks4_some, oNone_at, oSome_at, kSome_int, slO_str, sSeq_at, kSeq_nx, kSeq_rt, kSeq_bk, kSeq_ct, sNext_at, sBreak_at, sCont_at, sRetN_at, sRet_at, kRet_some, sExpr_at, kExpr_some, sSet_at, kSet_some, sIf_at, kIf_true, kIf_false, sPar2_k, kPar2_some, sPar3_k, kPar3_some, sAsg_at, kAsg_some, kAsg2_some, mName_at, mTup_2, mTup_3, mCons_at, kmCons_some, mNil_at, sPut_at, kp1_some, kp2_some, kp3_some, kp4_some, kFn_rt, kFn_nx, mkFn_0, mkFn_1, mkFn_2, mkFn_3, mkFn_4, mkFn_5, sWhile_at, List.getElem?_cons_zero, List.getElem?_cons_succ, List.set_cons_zero, List.set_cons_succ, List.replicate_succ, List.replicate_zero, Nat.reduceSub, Bool.not_true, Bool.not_false, ite_true, ite_false, if_true, if_false, reduceCtorEq, fldM_at, sFldM_at, kSF1_some, kSF2_some, kSF3_some, sFldAddM_at, kSA1_some, kSA2_int, eMake_at, kMk1_some, kMk2_some, isCM_at, isCO_non, eGet1_at, kG12_some, kG13_some, eGet2_at, kG22_some, kG23_some, eCallD_at, kCallD_some, eKdx_at, kKdx_some, kIsB_at, atI0, atI1, eq_str, ixO_tup, lenO_tup, mTup_2, List.cons.injEq, Nat.reduceEqDiff, decide_false, decide_true, and_false, and_true, false_and, true_and, Bool.or_false, Bool.or_true, Bool.true_or, Bool.false_or, Bool.and_true, Bool.and_false, Bool.false_and, Bool.true_and, Int.reduceLE, Int.reduceLT, tab_throw, h1, h2]
  cases F_called_giver [.ref 4, .str [116, 104, 114, 111, 119], .tup vs] st <;> rfl
theorem given_shut {vs : List D} (h1 : 1 ≤ (vs.length : Int)) (h2 : (vs.length : Int) ≤ 1) : F_called_given [.ref 4, .str [115, 104, 117, 116], .tup vs] st = F_called_giver [.ref 4, .str [115, 104, 117, 116], .tup vs] st := by
  simp only [F_called_given, b_called_given, eVar_at, kVar_some, eC_at, eBin_at, k2_some, k3_some, eUn_at, k1_some, kVal_some, kBl_some, kEq_at, kBlN_some, kNe_at, kIn_at, kNotIn_at, kIx_at, ixO_tup, kLt_int, kLe_int, kGt_int, kGe_int, kLt_str, kLe_str, kGt_str, kGe_str, kIs_non, kIs_bl, kIs_int, kIs_str, kIs_tup, kIs_ref, kIsNot_non, kIsNot_bl, kIsNot_int, kIsNot_str, kIsNot_tup, kIsNot_ref, opAdd_int, opAdd_str, opSub_int, opMul_int, opDiv_int, opMod_int, opPow_int, opAnd_int, opOr_int, opNeg_int, eChain_at, kc1_some, kc2_some, kc3_true, kc3_false, kc4_some, tOf_at, kTru_some, kTru2_some, truD_non, truD_bl, truD_int, truD_tup, tAnd_at, kAnd_true, kAnd_false, tOr_at, kOr_true, kOr_false, tNot_at, kNot_some, tYes_at, eAnd_at, keAnd_some, keAnd2_true, keAnd2_false, eOr_at, keOr_some, keOr2_true, keOr2_false, eNot_at, keNot_some, keNot2_some, eIf_at, keIf_true, keIf_false, aNil_at, aCons_at, ka1_some, ka2_some, eTup_at, kTup_0, kTup_1, kTup_2, kTup_3, kTup_4, kTup_5, kTup_6, eLst_at, kLst_0, kLst_1, kLst_2, kLst_3, kLst_4, eDic0_at, eCall_at, kCall_some, o1_at, isiO_at, kIsi_some, tyD_non, tyD_bl, tyD_int, tyD_str, tyD_tup, eBM_at, kbm1_some, kbm2_some, eSl_at, ks2_some, ks3_some, ks4_some, oNone_at, oSome_at, kSome_int, slO_str, sSeq_at, kSeq_nx, kSeq_rt, kSeq_bk, kSeq_ct, sNext_at, sBreak_at, sCont_at, sRetN_at, sRet_at, kRet_some, sExpr_at, kExpr_some, sSet_at, kSet_some, sIf_at, kIf_true, kIf_false, sPar2_k, kPar2_some, sPar3_k, kPar3_some, sAsg_at, kAsg_some, kAsg2_some, mName_at, mTup_2, mTup_3, mCons_at, kmCons_some, mNil_at, sPut_at, kp1_some, kp2_some, kp3_some, kp4_some, kFn_rt, kFn_nx, mkFn_0, mkFn_1, mkFn_2, mkFn_3, mkFn_4, mkFn_5, sWhile_at, List.getElem?_cons_zero, List.getElem?_cons_succ, List.set_cons_zero, List.set_cons_succ, List.replicate_succ, List.replicate_zero, Nat.reduceSub, Bool.not_true, Bool.not_false, ite_true, ite_false, if_true, if_false, reduceCtorEq, fldM_at, sFldM_at, kSF1_some, kSF2_some, kSF3_some, sFldAddM_at, kSA1_some, kSA2_int, eMake_at, kMk1_some, kMk2_some, isCM_at, isCO_non, eGet1_at, kG12_some, kG13_some, eGet2_at, kG22_some, kG23_some, eCallD_at, kCallD_some, eKdx_at, kKdx_some, kIsB_at, atI0, atI1, eq_str, ixO_tup, lenO_tup, mTup_2, List.cons.injEq, Nat.reduceEqDiff, decide_false, decide_true, and_false, and_true, false_and, true_and, Bool.or_false, Bool.or_true, Bool.true_or, Bool.false_or, Bool.and_true, Bool.and_false, Bool.false_and, Bool.true_and, Int.reduceLE, Int.reduceLT, tab_shut, h1, h2]
  cases F_called_giver [.ref 4, .str [115, 104, 117, 116], .tup vs] st <;> rfl
theorem given_count {x : D} : F_called_given [.ref 4, .str [99, 111, 117, 110, 116], .tup [x]] st = F_count_giver [.ref 4, x] st := by
  have h1 : (1 : Int) ≤ (([x] : List D).length : Int) := by simp
  have h2 : (([x] : List D).length : Int) ≤ 1 := by simp
  simp only [F_called_given, b_called_given, eVar_at, kVar_some, eC_at, eBin_at, k2_some, k3_some, eUn_at, k1_some, kVal_some, kBl_some, kEq_at, kBlN_some, kNe_at, kIn_at, kNotIn_at, kIx_at, ixO_tup, kLt_int, kLe_int, kGt_int, kGe_int, kLt_str, kLe_str, kGt_str, kGe_str, kIs_non, kIs_bl, kIs_int, kIs_str, kIs_tup, kIs_ref, kIsNot_non, kIsNot_bl, kIsNot_int, kIsNot_str, kIsNot_tup, kIsNot_ref, opAdd_int, opAdd_str, opSub_int, opMul_int, opDiv_int, opMod_int, opPow_int, opAnd_int, opOr_int, opNeg_int, eChain_at, kc1_some, kc2_some, kc3_true, kc3_false, kc4_some, tOf_at, kTru_some, kTru2_some, truD_non, truD_bl, truD_int, truD_tup, tAnd_at, kAnd_true, kAnd_false, tOr_at, kOr_true, kOr_false, tNot_at, kNot_some, tYes_at, eAnd_at, keAnd_some, keAnd2_true, keAnd2_false, eOr_at, keOr_some, keOr2_true, keOr2_false, eNot_at, keNot_some, keNot2_some, eIf_at, keIf_true, keIf_false, aNil_at, aCons_at, ka1_some, ka2_some, eTup_at, kTup_0, kTup_1, kTup_2, kTup_3, kTup_4, kTup_5, kTup_6, eLst_at, kLst_0, kLst_1, kLst_2, kLst_3, kLst_4, eDic0_at, eCall_at, kCall_some, o1_at, isiO_at, kIsi_some, tyD_non, tyD_bl, tyD_int, tyD_str, tyD_tup, eBM_at, kbm1_some, kbm2_some, eSl_at, ks2_some, ks3_some, ks4_some, oNone_at, oSome_at, kSome_int, slO_str, sSeq_at, kSeq_nx, kSeq_rt, kSeq_bk, kSeq_ct, sNext_at, sBreak_at, sCont_at, sRetN_at, sRet_at, kRet_some, sExpr_at, kExpr_some, sSet_at, kSet_some, sIf_at, kIf_true, kIf_false, sPar2_k, kPar2_some, sPar3_k, kPar3_some, sAsg_at, kAsg_some, kAsg2_some, mName_at, mTup_2, mTup_3, mCons_at, kmCons_some, mNil_at, sPut_at, kp1_some, kp2_some, kp3_some, kp4_some, kFn_rt, kFn_nx, mkFn_0, mkFn_1, mkFn_2, mkFn_3, mkFn_4, mkFn_5, sWhile_at, List.getElem?_cons_zero, List.getElem?_cons_succ, List.set_cons_zero, List.set_cons_succ, List.replicate_succ, List.replicate_zero, Nat.reduceSub, Bool.not_true, Bool.not_false, ite_true, ite_false, if_true, if_false, reduceCtorEq, fldM_at, sFldM_at, kSF1_some, kSF2_some, kSF3_some, sFldAddM_at, kSA1_some, kSA2_int, eMake_at, kMk1_some, kMk2_some, isCM_at, isCO_non, eGet1_at, kG12_some, kG13_some, eGet2_at, kG22_some, kG23_some, eCallD_at, kCallD_some, eKdx_at, kKdx_some, kIsB_at, atI0, atI1, eq_str, ixO_tup, lenO_tup, mTup_2, List.cons.injEq, Nat.reduceEqDiff, decide_false, decide_true, and_false, and_true, false_and, true_and, Bool.or_false, Bool.or_true, Bool.true_or, Bool.false_or, Bool.and_true, Bool.and_false, Bool.false_and, Bool.true_and, Int.reduceLE, Int.reduceLT, tab_count, h1, h2]
  cases F_count_giver [.ref 4, x] st <;> rfl
end
end Math

set_option maxRecDepth 100000
set_option maxHeartbeats 4000000
namespace Math
open MP Text PySem
/-- what stands elsewhere stays -/
def Only (J : List Nat) (st st' : Sto) : Prop := ∀ n o, n ∉ J → st[n]? = some o → st'[n]? = some o
theorem Only.refl {J : List Nat} {st : Sto} : Only J st st := fun _ _ _ h => h
theorem Only.grow {J : List Nat} {st g : Sto} : Only J st (st ++ g) := fun _ _ _ h => get_grow h
theorem Only.set {J : List Nat} {st : Sto} {j : Nat} {o : Ob} (hj : j ∈ J) : Only J st (st.set j o) := fun n o' hn h => by
  have hne : j ≠ n := fun e => hn (by rw [← e]; exact hj)
  rw [List.getElem?_set_ne hne]
  exact h
theorem Only.trans {J : List Nat} {st st' st'' : Sto} (a : Only J st st') (b : Only J st' st'') : Only J st st'' := fun n o hn h => b n o hn (a n o hn h)
theorem Only.more {J J' : List Nat} {st st' : Sto} (a : Only J st st') (h : ∀ x ∈ J, x ∈ J') : Only J' st st' := fun n o hn e => a n o (fun z => hn (h n z)) e
theorem made_init (st : Sto) (k f : D) : F_Made_init [.ref st.length, k, f] (st ++ [.ins 5 []]) = some (.non, st ++ [.ins 5 [("kind", k), ("fields", f)]]) := by
  have h1 : setFO [5] "kind" (.ref st.length) k (st ++ [.ins 5 []]) = some (st ++ [.ins 5 [("kind", k)]]) := by
    rw [setFO_ins (at_end st _ []) (by decide) (by simp), set_end]
    rfl
  have h2 : setFO [4, 5] "fields" (.ref st.length) f (st ++ [.ins 5 [("kind", k)]]) = some (st ++ [.ins 5 [("kind", k), ("fields", f)]]) := by
    rw [setFO_ins (at_end st _ []) (by decide) (by simp), set_end]
    rfl
  simp only [F_Made_init, b_Made_init, eVar_at, kVar_some, eC_at, eBin_at, k2_some, k3_some, eUn_at, k1_some, kVal_some, kBl_some, kEq_at, kBlN_some, kNe_at, kIn_at, kNotIn_at, kIx_at, ixO_tup, kLt_int, kLe_int, kGt_int, kGe_int, kLt_str, kLe_str, kGt_str, kGe_str, kIs_non, kIs_bl, kIs_int, kIs_str, kIs_tup, kIs_ref, kIsNot_non, kIsNot_bl, kIsNot_int, kIsNot_str, kIsNot_tup, kIsNot_ref, opAdd_int, opAdd_str, opSub_int, opMul_int, opDiv_int, opMod_int, opPow_int, opAnd_int, opOr_int, opNeg_int, eChain_at, kc1_some, kc2_some, kc3_true, kc3_false, kc4_some, tOf_at, kTru_some, kTru2_some, truD_non, truD_bl, truD_int, truD_tup, tAnd_at, kAnd_true, kAnd_false, tOr_at, kOr_true, kOr_false, tNot_at, kNot_some, tYes_at, eAnd_at, keAnd_some, keAnd2_true, keAnd2_false, eOr_at, keOr_some, keOr2_true, keOr2_false, eNot_at, keNot_some, keNot2_some, eIf_at, keIf_true, keIf_false, aNil_at, aCons_at, ka1_some, ka2_some, eTup_at, kTup_0, kTup_1, kTup_2, kTup_3, kTup_4, kTup_5, kTup_6, eLst_at, kLst_0, kLst_1, kLst_2, kLst_3, kLst_4, eDic0_at, eCall_at, kCall_some, o1_at, isiO_at, kIsi_some, tyD_non, tyD_bl, tyD_int, tyD_str, tyD_tup, eBM_at, kbm1_some, kbm2_some, eSl_at, ks2_some, ks3_some, ks4_some, oNone_at, oSome_at, kSome_int, slO_str, sSeq_at, kSeq_nx, kSeq_rt, kSeq_bk, kSeq_ct, sNext_at, sBreak_at, sCont_at, sRetN_at, sRet_at, kRet_some, sExpr_at, kExpr_some, sSet_at, kSet_some, sIf_at, kIf_true, kIf_false, sPar2_k, kPar2_some, sPar3_k, kPar3_some, sAsg_at, kAsg_some, kAsg2_some, mName_at, mTup_2, mTup_3, mCons_at, kmCons_some, mNil_at, sPut_at, kp1_some, kp2_some, kp3_some, kp4_some, kFn_rt, kFn_nx, mkFn_0, mkFn_1, mkFn_2, mkFn_3, mkFn_4, mkFn_5, sWhile_at, List.getElem?_cons_zero, List.getElem?_cons_succ, List.set_cons_zero, List.set_cons_succ, List.replicate_succ, List.replicate_zero, Nat.reduceSub, Bool.not_true, Bool.not_false, ite_true, ite_false, if_true, if_false, reduceCtorEq, fldM_at, sFldM_at, kSF1_some, kSF2_some, kSF3_some, sFldAddM_at, kSA1_some, kSA2_int, eMake_at, kMk1_some, kMk2_some, isCM_at, isCO_non, eGet1_at, kG12_some, kG13_some, eGet2_at, kG22_some, kG23_some, eCallD_at, kCallD_some, eKdx_at, kKdx_some, kIsB_at, atI0, atI1, eq_str, ixO_tup, lenO_tup, mTup_2, List.cons.injEq, Nat.reduceEqDiff, decide_false, decide_true, and_false, and_true, false_and, true_and, Bool.or_false, Bool.or_true, Bool.true_or, Bool.false_or, Bool.and_true, Bool.and_false, Bool.false_and, Bool.true_and, Int.reduceLE, Int.reduceLT, h1, h2]
theorem giver_init (st : Sto) (nm fr en : D) : F_Giver_init [.ref st.length, nm, fr, en] (st ++ [.ins 6 []]) = some (.non, st ++ [recG nm fr en (.int 0) (.str sNew)]) := by
  have h1 : setFO [1, 2, 4, 6] "name" (.ref st.length) nm (st ++ [.ins 6 []]) = some (st ++ [.ins 6 [("name", nm)]]) := by
    rw [setFO_ins (at_end st _ []) (by decide) (by simp), set_end]
    rfl
  have h2 : setFO [6] "frame" (.ref st.length) fr (st ++ [.ins 6 [("name", nm)]]) = some (st ++ [.ins 6 [("name", nm), ("frame", fr)]]) := by
    rw [setFO_ins (at_end st _ []) (by decide) (by simp), set_end]
    rfl
  have h3 : setFO [6] "end" (.ref st.length) en (st ++ [.ins 6 [("name", nm), ("frame", fr)]]) = some (st ++ [.ins 6 [("name", nm), ("frame", fr), ("end", en)]]) := by
    rw [setFO_ins (at_end st _ []) (by decide) (by simp), set_end]
    rfl
  have h4 : setFO [6] "at" (.ref st.length) (.int 0) (st ++ [.ins 6 [("name", nm), ("frame", fr), ("end", en)]]) = some (st ++ [.ins 6 [("name", nm), ("frame", fr), ("end", en), ("at", .int 0)]]) := by
    rw [setFO_ins (at_end st _ []) (by decide) (by simp), set_end]
    rfl
  have h5 : setFO [6] "state" (.ref st.length) (.str sNew) (st ++ [.ins 6 [("name", nm), ("frame", fr), ("end", en), ("at", .int 0)]]) = some (st ++ [recG nm fr en (.int 0) (.str sNew)]) := by
    rw [setFO_ins (at_end st _ []) (by decide) (by simp), set_end]
    rfl
  simp only [F_Giver_init, b_Giver_init, eVar_at, kVar_some, eC_at, eBin_at, k2_some, k3_some, eUn_at, k1_some, kVal_some, kBl_some, kEq_at, kBlN_some, kNe_at, kIn_at, kNotIn_at, kIx_at, ixO_tup, kLt_int, kLe_int, kGt_int, kGe_int, kLt_str, kLe_str, kGt_str, kGe_str, kIs_non, kIs_bl, kIs_int, kIs_str, kIs_tup, kIs_ref, kIsNot_non, kIsNot_bl, kIsNot_int, kIsNot_str, kIsNot_tup, kIsNot_ref, opAdd_int, opAdd_str, opSub_int, opMul_int, opDiv_int, opMod_int, opPow_int, opAnd_int, opOr_int, opNeg_int, eChain_at, kc1_some, kc2_some, kc3_true, kc3_false, kc4_some, tOf_at, kTru_some, kTru2_some, truD_non, truD_bl, truD_int, truD_tup, tAnd_at, kAnd_true, kAnd_false, tOr_at, kOr_true, kOr_false, tNot_at, kNot_some, tYes_at, eAnd_at, keAnd_some, keAnd2_true, keAnd2_false, eOr_at, keOr_some, keOr2_true, keOr2_false, eNot_at, keNot_some, keNot2_some, eIf_at, keIf_true, keIf_false, aNil_at, aCons_at, ka1_some, ka2_some, eTup_at, kTup_0, kTup_1, kTup_2, kTup_3, kTup_4, kTup_5, kTup_6, eLst_at, kLst_0, kLst_1, kLst_2, kLst_3, kLst_4, eDic0_at, eCall_at, kCall_some, o1_at, isiO_at, kIsi_some, tyD_non, tyD_bl, tyD_int, tyD_str, tyD_tup, eBM_at, kbm1_some, kbm2_some, eSl_at, ks2_some, ks3_some, ks4_some, oNone_at, oSome_at, kSome_int, slO_str, sSeq_at, kSeq_nx, kSeq_rt, kSeq_bk, kSeq_ct, sNext_at, sBreak_at, sCont_at, sRetN_at, sRet_at, kRet_some, sExpr_at, kExpr_some, sSet_at, kSet_some, sIf_at, kIf_true, kIf_false, sPar2_k, kPar2_some, sPar3_k, kPar3_some, sAsg_at, kAsg_some, kAsg2_some, mName_at, mTup_2, mTup_3, mCons_at, kmCons_some, mNil_at, sPut_at, kp1_some, kp2_some, kp3_some, kp4_some, kFn_rt, kFn_nx, mkFn_0, mkFn_1, mkFn_2, mkFn_3, mkFn_4, mkFn_5, sWhile_at, List.getElem?_cons_zero, List.getElem?_cons_succ, List.set_cons_zero, List.set_cons_succ, List.replicate_succ, List.replicate_zero, Nat.reduceSub, Bool.not_true, Bool.not_false, ite_true, ite_false, if_true, if_false, reduceCtorEq, fldM_at, sFldM_at, kSF1_some, kSF2_some, kSF3_some, sFldAddM_at, kSA1_some, kSA2_int, eMake_at, kMk1_some, kMk2_some, isCM_at, isCO_non, eGet1_at, kG12_some, kG13_some, eGet2_at, kG22_some, kG23_some, eCallD_at, kCallD_some, eKdx_at, kKdx_some, kIsB_at, atI0, atI1, eq_str, ixO_tup, lenO_tup, mTup_2, List.cons.injEq, Nat.reduceEqDiff, decide_false, decide_true, and_false, and_true, false_and, true_and, Bool.or_false, Bool.or_true, Bool.true_or, Bool.false_or, Bool.and_true, Bool.and_false, Bool.false_and, Bool.true_and, Int.reduceLE, Int.reduceLT, h1, h2, h3, h4, h5]
theorem eq_th (st : Sto) (a b : Int) : eqO st (th a) (th b) = some (a == b) := by
  simp [eqO, DEEP, toP, mapO, PyData.eqv, PyData.eqvAll]
/-- a fault's record -/
def recF (k : Int) (f : D) : Ob := .ins 5 [("kind", th k), ("fields", f)]
def FK (k : Int) : Prop := k = 1 ∨ k = 8 ∨ k = 9
section
variable {ths : List Nat} {st : Sto}
theorem class_is (w : Wd ths st) {k : Int} (hk : FK k) : F_is_fault_class [.ref 4, th k] st = some (.bl true, st) := by
  have kn : F_known [.ref 4, .str [70, 97, 117, 108, 116]] st = some (th 1, st) := known_is w (by rfl)
  rcases hk with rfl | rfl | rfl

  · have hr : ths[1]? = some 12 := ths_fix w (by rfl)
    have ho : st[12]? = some kd1 := w.f (12, kd1) (List.mem_of_getElem? (i := 3) (by rfl))
    have rc : F_record_of [.ref 4, th 1] st = some (.ref 12, st) := rec_is w hr
    have c1 : isCO [4] 9 (.ref 12) st = some true := isCO_ins ho (by decide)
    have c2 : fldO [4, 7] "order" (.ref 12) st = some (.tup [th 0]) := fldO_ins ho (by decide) (by rfl)
    have c3 : eqO st (th 1) (th 1) = some true := by rw [eq_th]; rfl
    have c4 : inO st (th 1) (.tup [th 0]) = some false := by
      simp [inO, inD, DEEP, toP, mapO, PyData.eqv, PyData.eqvAll]
    simp only [F_is_fault_class, b_is_fault_class, F_is_under, b_is_under, eVar_at, kVar_some, eC_at, eBin_at, k2_some, k3_some, eUn_at, k1_some, kVal_some, kBl_some, kEq_at, kBlN_some, kNe_at, kIn_at, kNotIn_at, kIx_at, ixO_tup, kLt_int, kLe_int, kGt_int, kGe_int, kLt_str, kLe_str, kGt_str, kGe_str, kIs_non, kIs_bl, kIs_int, kIs_str, kIs_tup, kIs_ref, kIsNot_non, kIsNot_bl, kIsNot_int, kIsNot_str, kIsNot_tup, kIsNot_ref, opAdd_int, opAdd_str, opSub_int, opMul_int, opDiv_int, opMod_int, opPow_int, opAnd_int, opOr_int, opNeg_int, eChain_at, kc1_some, kc2_some, kc3_true, kc3_false, kc4_some, tOf_at, kTru_some, kTru2_some, truD_non, truD_bl, truD_int, truD_tup, tAnd_at, kAnd_true, kAnd_false, tOr_at, kOr_true, kOr_false, tNot_at, kNot_some, tYes_at, eAnd_at, keAnd_some, keAnd2_true, keAnd2_false, eOr_at, keOr_some, keOr2_true, keOr2_false, eNot_at, keNot_some, keNot2_some, eIf_at, keIf_true, keIf_false, aNil_at, aCons_at, ka1_some, ka2_some, eTup_at, kTup_0, kTup_1, kTup_2, kTup_3, kTup_4, kTup_5, kTup_6, eLst_at, kLst_0, kLst_1, kLst_2, kLst_3, kLst_4, eDic0_at, eCall_at, kCall_some, o1_at, isiO_at, kIsi_some, tyD_non, tyD_bl, tyD_int, tyD_str, tyD_tup, eBM_at, kbm1_some, kbm2_some, eSl_at, ks2_some, ks3_some, ks4_some, oNone_at, oSome_at, kSome_int, slO_str, sSeq_at, kSeq_nx, kSeq_rt, kSeq_bk, kSeq_ct, sNext_at, sBreak_at, sCont_at, sRetN_at, sRet_at, kRet_some, sExpr_at, kExpr_some, sSet_at, kSet_some, sIf_at, kIf_true, kIf_false, sPar2_k, kPar2_some, sPar3_k, kPar3_some, sAsg_at, kAsg_some, kAsg2_some, mName_at, mTup_2, mTup_3, mCons_at, kmCons_some, mNil_at, sPut_at, kp1_some, kp2_some, kp3_some, kp4_some, kFn_rt, kFn_nx, mkFn_0, mkFn_1, mkFn_2, mkFn_3, mkFn_4, mkFn_5, sWhile_at, List.getElem?_cons_zero, List.getElem?_cons_succ, List.set_cons_zero, List.set_cons_succ, List.replicate_succ, List.replicate_zero, Nat.reduceSub, Bool.not_true, Bool.not_false, ite_true, ite_false, if_true, if_false, reduceCtorEq, fldM_at, sFldM_at, kSF1_some, kSF2_some, kSF3_some, sFldAddM_at, kSA1_some, kSA2_int, eMake_at, kMk1_some, kMk2_some, isCM_at, isCO_non, eGet1_at, kG12_some, kG13_some, eGet2_at, kG22_some, kG23_some, eCallD_at, kCallD_some, eKdx_at, kKdx_some, kIsB_at, atI0, atI1, eq_str, ixO_tup, lenO_tup, mTup_2, List.cons.injEq, Nat.reduceEqDiff, decide_false, decide_true, and_false, and_true, false_and, true_and, Bool.or_false, Bool.or_true, Bool.true_or, Bool.false_or, Bool.and_true, Bool.and_false, Bool.false_and, Bool.true_and, Int.reduceLE, Int.reduceLT, kn, rc, c1, c2, c3, c4]
  · have hr : ths[8]? = some 26 := ths_fix w (by rfl)
    have ho : st[26]? = some kd8 := w.f (26, kd8) (List.mem_of_getElem? (i := 10) (by rfl))
    have rc : F_record_of [.ref 4, th 8] st = some (.ref 26, st) := rec_is w hr
    have c1 : isCO [4] 9 (.ref 26) st = some true := isCO_ins ho (by decide)
    have c2 : fldO [4, 7] "order" (.ref 26) st = some (.tup [th 1, th 0]) := fldO_ins ho (by decide) (by rfl)
    have c3 : eqO st (th 8) (th 1) = some false := by rw [eq_th]; rfl
    have c4 : inO st (th 1) (.tup [th 1, th 0]) = some true := by
      simp [inO, inD, DEEP, toP, mapO, PyData.eqv, PyData.eqvAll]
    simp only [F_is_fault_class, b_is_fault_class, F_is_under, b_is_under, eVar_at, kVar_some, eC_at, eBin_at, k2_some, k3_some, eUn_at, k1_some, kVal_some, kBl_some, kEq_at, kBlN_some, kNe_at, kIn_at, kNotIn_at, kIx_at, ixO_tup, kLt_int, kLe_int, kGt_int, kGe_int, kLt_str, kLe_str, kGt_str, kGe_str, kIs_non, kIs_bl, kIs_int, kIs_str, kIs_tup, kIs_ref, kIsNot_non, kIsNot_bl, kIsNot_int, kIsNot_str, kIsNot_tup, kIsNot_ref, opAdd_int, opAdd_str, opSub_int, opMul_int, opDiv_int, opMod_int, opPow_int, opAnd_int, opOr_int, opNeg_int, eChain_at, kc1_some, kc2_some, kc3_true, kc3_false, kc4_some, tOf_at, kTru_some, kTru2_some, truD_non, truD_bl, truD_int, truD_tup, tAnd_at, kAnd_true, kAnd_false, tOr_at, kOr_true, kOr_false, tNot_at, kNot_some, tYes_at, eAnd_at, keAnd_some, keAnd2_true, keAnd2_false, eOr_at, keOr_some, keOr2_true, keOr2_false, eNot_at, keNot_some, keNot2_some, eIf_at, keIf_true, keIf_false, aNil_at, aCons_at, ka1_some, ka2_some, eTup_at, kTup_0, kTup_1, kTup_2, kTup_3, kTup_4, kTup_5, kTup_6, eLst_at, kLst_0, kLst_1, kLst_2, kLst_3, kLst_4, eDic0_at, eCall_at, kCall_some, o1_at, isiO_at, kIsi_some, tyD_non, tyD_bl, tyD_int, tyD_str, tyD_tup, eBM_at, kbm1_some, kbm2_some, eSl_at, ks2_some, ks3_some, ks4_some, oNone_at, oSome_at, kSome_int, slO_str, sSeq_at, kSeq_nx, kSeq_rt, kSeq_bk, kSeq_ct, sNext_at, sBreak_at, sCont_at, sRetN_at, sRet_at, kRet_some, sExpr_at, kExpr_some, sSet_at, kSet_some, sIf_at, kIf_true, kIf_false, sPar2_k, kPar2_some, sPar3_k, kPar3_some, sAsg_at, kAsg_some, kAsg2_some, mName_at, mTup_2, mTup_3, mCons_at, kmCons_some, mNil_at, sPut_at, kp1_some, kp2_some, kp3_some, kp4_some, kFn_rt, kFn_nx, mkFn_0, mkFn_1, mkFn_2, mkFn_3, mkFn_4, mkFn_5, sWhile_at, List.getElem?_cons_zero, List.getElem?_cons_succ, List.set_cons_zero, List.set_cons_succ, List.replicate_succ, List.replicate_zero, Nat.reduceSub, Bool.not_true, Bool.not_false, ite_true, ite_false, if_true, if_false, reduceCtorEq, fldM_at, sFldM_at, kSF1_some, kSF2_some, kSF3_some, sFldAddM_at, kSA1_some, kSA2_int, eMake_at, kMk1_some, kMk2_some, isCM_at, isCO_non, eGet1_at, kG12_some, kG13_some, eGet2_at, kG22_some, kG23_some, eCallD_at, kCallD_some, eKdx_at, kKdx_some, kIsB_at, atI0, atI1, eq_str, ixO_tup, lenO_tup, mTup_2, List.cons.injEq, Nat.reduceEqDiff, decide_false, decide_true, and_false, and_true, false_and, true_and, Bool.or_false, Bool.or_true, Bool.true_or, Bool.false_or, Bool.and_true, Bool.and_false, Bool.false_and, Bool.true_and, Int.reduceLE, Int.reduceLT, kn, rc, c1, c2, c3, c4]
  · have hr : ths[9]? = some 28 := ths_fix w (by rfl)
    have ho : st[28]? = some kd9 := w.f (28, kd9) (List.mem_of_getElem? (i := 11) (by rfl))
    have rc : F_record_of [.ref 4, th 9] st = some (.ref 28, st) := rec_is w hr
    have c1 : isCO [4] 9 (.ref 28) st = some true := isCO_ins ho (by decide)
    have c2 : fldO [4, 7] "order" (.ref 28) st = some (.tup [th 1, th 0]) := fldO_ins ho (by decide) (by rfl)
    have c3 : eqO st (th 9) (th 1) = some false := by rw [eq_th]; rfl
    have c4 : inO st (th 1) (.tup [th 1, th 0]) = some true := by
      simp [inO, inD, DEEP, toP, mapO, PyData.eqv, PyData.eqvAll]
    simp only [F_is_fault_class, b_is_fault_class, F_is_under, b_is_under, eVar_at, kVar_some, eC_at, eBin_at, k2_some, k3_some, eUn_at, k1_some, kVal_some, kBl_some, kEq_at, kBlN_some, kNe_at, kIn_at, kNotIn_at, kIx_at, ixO_tup, kLt_int, kLe_int, kGt_int, kGe_int, kLt_str, kLe_str, kGt_str, kGe_str, kIs_non, kIs_bl, kIs_int, kIs_str, kIs_tup, kIs_ref, kIsNot_non, kIsNot_bl, kIsNot_int, kIsNot_str, kIsNot_tup, kIsNot_ref, opAdd_int, opAdd_str, opSub_int, opMul_int, opDiv_int, opMod_int, opPow_int, opAnd_int, opOr_int, opNeg_int, eChain_at, kc1_some, kc2_some, kc3_true, kc3_false, kc4_some, tOf_at, kTru_some, kTru2_some, truD_non, truD_bl, truD_int, truD_tup, tAnd_at, kAnd_true, kAnd_false, tOr_at, kOr_true, kOr_false, tNot_at, kNot_some, tYes_at, eAnd_at, keAnd_some, keAnd2_true, keAnd2_false, eOr_at, keOr_some, keOr2_true, keOr2_false, eNot_at, keNot_some, keNot2_some, eIf_at, keIf_true, keIf_false, aNil_at, aCons_at, ka1_some, ka2_some, eTup_at, kTup_0, kTup_1, kTup_2, kTup_3, kTup_4, kTup_5, kTup_6, eLst_at, kLst_0, kLst_1, kLst_2, kLst_3, kLst_4, eDic0_at, eCall_at, kCall_some, o1_at, isiO_at, kIsi_some, tyD_non, tyD_bl, tyD_int, tyD_str, tyD_tup, eBM_at, kbm1_some, kbm2_some, eSl_at, ks2_some, ks3_some, ks4_some, oNone_at, oSome_at, kSome_int, slO_str, sSeq_at, kSeq_nx, kSeq_rt, kSeq_bk, kSeq_ct, sNext_at, sBreak_at, sCont_at, sRetN_at, sRet_at, kRet_some, sExpr_at, kExpr_some, sSet_at, kSet_some, sIf_at, kIf_true, kIf_false, sPar2_k, kPar2_some, sPar3_k, kPar3_some, sAsg_at, kAsg_some, kAsg2_some, mName_at, mTup_2, mTup_3, mCons_at, kmCons_some, mNil_at, sPut_at, kp1_some, kp2_some, kp3_some, kp4_some, kFn_rt, kFn_nx, mkFn_0, mkFn_1, mkFn_2, mkFn_3, mkFn_4, mkFn_5, sWhile_at, List.getElem?_cons_zero, List.getElem?_cons_succ, List.set_cons_zero, List.set_cons_succ, List.replicate_succ, List.replicate_zero, Nat.reduceSub, Bool.not_true, Bool.not_false, ite_true, ite_false, if_true, if_false, reduceCtorEq, fldM_at, sFldM_at, kSF1_some, kSF2_some, kSF3_some, sFldAddM_at, kSA1_some, kSA2_int, eMake_at, kMk1_some, kMk2_some, isCM_at, isCO_non, eGet1_at, kG12_some, kG13_some, eGet2_at, kG22_some, kG23_some, eCallD_at, kCallD_some, eKdx_at, kKdx_some, kIsB_at, atI0, atI1, eq_str, ixO_tup, lenO_tup, mTup_2, List.cons.injEq, Nat.reduceEqDiff, decide_false, decide_true, and_false, and_true, false_and, true_and, Bool.or_false, Bool.or_true, Bool.true_or, Bool.false_or, Bool.and_true, Bool.and_false, Bool.false_and, Bool.true_and, Int.reduceLE, Int.reduceLT, kn, rc, c1, c2, c3, c4]

theorem fault_is (w : Wd ths st) {k : Int} (hk : FK k) {i r : Nat} {f : D} (h : ths[i]? = some r) (hr : st[r]? = some (recF k f)) : F_is_fault [.ref 4, th (i : Nat)] st = some (.bl true, st) := by
  have c1 : isCO [5] 9 (.ref r) st = some true := isCO_ins hr (by decide)
  have c2 : fldO [5] "kind" (.ref r) st = some (th k) := fldO_ins hr (by decide) (by rfl)
  simp only [F_is_fault, b_is_fault, eVar_at, kVar_some, eC_at, eBin_at, k2_some, k3_some, eUn_at, k1_some, kVal_some, kBl_some, kEq_at, kBlN_some, kNe_at, kIn_at, kNotIn_at, kIx_at, ixO_tup, kLt_int, kLe_int, kGt_int, kGe_int, kLt_str, kLe_str, kGt_str, kGe_str, kIs_non, kIs_bl, kIs_int, kIs_str, kIs_tup, kIs_ref, kIsNot_non, kIsNot_bl, kIsNot_int, kIsNot_str, kIsNot_tup, kIsNot_ref, opAdd_int, opAdd_str, opSub_int, opMul_int, opDiv_int, opMod_int, opPow_int, opAnd_int, opOr_int, opNeg_int, eChain_at, kc1_some, kc2_some, kc3_true, kc3_false, kc4_some, tOf_at, kTru_some, kTru2_some, truD_non, truD_bl, truD_int, truD_tup, tAnd_at, kAnd_true, kAnd_false, tOr_at, kOr_true, kOr_false, tNot_at, kNot_some, tYes_at, eAnd_at, keAnd_some, keAnd2_true, keAnd2_false, eOr_at, keOr_some, keOr2_true, keOr2_false, eNot_at, keNot_some, keNot2_some, eIf_at, keIf_true, keIf_false, aNil_at, aCons_at, ka1_some, ka2_some, eTup_at, kTup_0, kTup_1, kTup_2, kTup_3, kTup_4, kTup_5, kTup_6, eLst_at, kLst_0, kLst_1, kLst_2, kLst_3, kLst_4, eDic0_at, eCall_at, kCall_some, o1_at, isiO_at, kIsi_some, tyD_non, tyD_bl, tyD_int, tyD_str, tyD_tup, eBM_at, kbm1_some, kbm2_some, eSl_at, ks2_some, ks3_some, ks4_some, oNone_at, oSome_at, kSome_int, slO_str, sSeq_at, kSeq_nx, kSeq_rt, kSeq_bk, kSeq_ct, sNext_at, sBreak_at, sCont_at, sRetN_at, sRet_at, kRet_some, sExpr_at, kExpr_some, sSet_at, kSet_some, sIf_at, kIf_true, kIf_false, sPar2_k, kPar2_some, sPar3_k, kPar3_some, sAsg_at, kAsg_some, kAsg2_some, mName_at, mTup_2, mTup_3, mCons_at, kmCons_some, mNil_at, sPut_at, kp1_some, kp2_some, kp3_some, kp4_some, kFn_rt, kFn_nx, mkFn_0, mkFn_1, mkFn_2, mkFn_3, mkFn_4, mkFn_5, sWhile_at, List.getElem?_cons_zero, List.getElem?_cons_succ, List.set_cons_zero, List.set_cons_succ, List.replicate_succ, List.replicate_zero, Nat.reduceSub, Bool.not_true, Bool.not_false, ite_true, ite_false, if_true, if_false, reduceCtorEq, fldM_at, sFldM_at, kSF1_some, kSF2_some, kSF3_some, sFldAddM_at, kSA1_some, kSA2_int, eMake_at, kMk1_some, kMk2_some, isCM_at, isCO_non, eGet1_at, kG12_some, kG13_some, eGet2_at, kG22_some, kG23_some, eCallD_at, kCallD_some, eKdx_at, kKdx_some, kIsB_at, atI0, atI1, eq_str, ixO_tup, lenO_tup, mTup_2, List.cons.injEq, Nat.reduceEqDiff, decide_false, decide_true, and_false, and_true, false_and, true_and, Bool.or_false, Bool.or_true, Bool.true_or, Bool.false_or, Bool.and_true, Bool.and_false, Bool.false_and, Bool.true_and, Int.reduceLE, Int.reduceLT, rec_is w h, c1, c2, class_is w hk]
theorem fault_no (w : Wd ths st) {i r c : Nat} {fs : List (Str × D)} (h : ths[i]? = some r) (hr : st[r]? = some (.ins c fs)) (hc : c < 9) (h5 : c ≠ 5) : F_is_fault [.ref 4, th (i : Nat)] st = some (.bl false, st) := by
  have c1 : isCO [5] 9 (.ref r) st = some false := by
    rw [isCO_ins hr hc]
    simp [h5]
  simp only [F_is_fault, b_is_fault, eVar_at, kVar_some, eC_at, eBin_at, k2_some, k3_some, eUn_at, k1_some, kVal_some, kBl_some, kEq_at, kBlN_some, kNe_at, kIn_at, kNotIn_at, kIx_at, ixO_tup, kLt_int, kLe_int, kGt_int, kGe_int, kLt_str, kLe_str, kGt_str, kGe_str, kIs_non, kIs_bl, kIs_int, kIs_str, kIs_tup, kIs_ref, kIsNot_non, kIsNot_bl, kIsNot_int, kIsNot_str, kIsNot_tup, kIsNot_ref, opAdd_int, opAdd_str, opSub_int, opMul_int, opDiv_int, opMod_int, opPow_int, opAnd_int, opOr_int, opNeg_int, eChain_at, kc1_some, kc2_some, kc3_true, kc3_false, kc4_some, tOf_at, kTru_some, kTru2_some, truD_non, truD_bl, truD_int, truD_tup, tAnd_at, kAnd_true, kAnd_false, tOr_at, kOr_true, kOr_false, tNot_at, kNot_some, tYes_at, eAnd_at, keAnd_some, keAnd2_true, keAnd2_false, eOr_at, keOr_some, keOr2_true, keOr2_false, eNot_at, keNot_some, keNot2_some, eIf_at, keIf_true, keIf_false, aNil_at, aCons_at, ka1_some, ka2_some, eTup_at, kTup_0, kTup_1, kTup_2, kTup_3, kTup_4, kTup_5, kTup_6, eLst_at, kLst_0, kLst_1, kLst_2, kLst_3, kLst_4, eDic0_at, eCall_at, kCall_some, o1_at, isiO_at, kIsi_some, tyD_non, tyD_bl, tyD_int, tyD_str, tyD_tup, eBM_at, kbm1_some, kbm2_some, eSl_at, ks2_some, ks3_some, ks4_some, oNone_at, oSome_at, kSome_int, slO_str, sSeq_at, kSeq_nx, kSeq_rt, kSeq_bk, kSeq_ct, sNext_at, sBreak_at, sCont_at, sRetN_at, sRet_at, kRet_some, sExpr_at, kExpr_some, sSet_at, kSet_some, sIf_at, kIf_true, kIf_false, sPar2_k, kPar2_some, sPar3_k, kPar3_some, sAsg_at, kAsg_some, kAsg2_some, mName_at, mTup_2, mTup_3, mCons_at, kmCons_some, mNil_at, sPut_at, kp1_some, kp2_some, kp3_some, kp4_some, kFn_rt, kFn_nx, mkFn_0, mkFn_1, mkFn_2, mkFn_3, mkFn_4, mkFn_5, sWhile_at, List.getElem?_cons_zero, List.getElem?_cons_succ, List.set_cons_zero, List.set_cons_succ, List.replicate_succ, List.replicate_zero, Nat.reduceSub, Bool.not_true, Bool.not_false, ite_true, ite_false, if_true, if_false, reduceCtorEq, fldM_at, sFldM_at, kSF1_some, kSF2_some, kSF3_some, sFldAddM_at, kSA1_some, kSA2_int, eMake_at, kMk1_some, kMk2_some, isCM_at, isCO_non, eGet1_at, kG12_some, kG13_some, eGet2_at, kG22_some, kG23_some, eCallD_at, kCallD_some, eKdx_at, kKdx_some, kIsB_at, atI0, atI1, eq_str, ixO_tup, lenO_tup, mTup_2, List.cons.injEq, Nat.reduceEqDiff, decide_false, decide_true, and_false, and_true, false_and, true_and, Bool.or_false, Bool.or_true, Bool.true_or, Bool.false_or, Bool.and_true, Bool.and_false, Bool.false_and, Bool.true_and, Int.reduceLE, Int.reduceLT, rec_is w h, c1]
theorem fault_none {s : List Nat} {r : List D} (h : s ≠ [116, 104, 105, 110, 103]) : F_is_fault [.ref 4, .tup (.str s :: r)] st = some (.bl false, st) := by
  simp only [F_is_fault, b_is_fault, eVar_at, kVar_some, eC_at, eBin_at, k2_some, k3_some, eUn_at, k1_some, kVal_some, kBl_some, kEq_at, kBlN_some, kNe_at, kIn_at, kNotIn_at, kIx_at, ixO_tup, kLt_int, kLe_int, kGt_int, kGe_int, kLt_str, kLe_str, kGt_str, kGe_str, kIs_non, kIs_bl, kIs_int, kIs_str, kIs_tup, kIs_ref, kIsNot_non, kIsNot_bl, kIsNot_int, kIsNot_str, kIsNot_tup, kIsNot_ref, opAdd_int, opAdd_str, opSub_int, opMul_int, opDiv_int, opMod_int, opPow_int, opAnd_int, opOr_int, opNeg_int, eChain_at, kc1_some, kc2_some, kc3_true, kc3_false, kc4_some, tOf_at, kTru_some, kTru2_some, truD_non, truD_bl, truD_int, truD_tup, tAnd_at, kAnd_true, kAnd_false, tOr_at, kOr_true, kOr_false, tNot_at, kNot_some, tYes_at, eAnd_at, keAnd_some, keAnd2_true, keAnd2_false, eOr_at, keOr_some, keOr2_true, keOr2_false, eNot_at, keNot_some, keNot2_some, eIf_at, keIf_true, keIf_false, aNil_at, aCons_at, ka1_some, ka2_some, eTup_at, kTup_0, kTup_1, kTup_2, kTup_3, kTup_4, kTup_5, kTup_6, eLst_at, kLst_0, kLst_1, kLst_2, kLst_3, kLst_4, eDic0_at, eCall_at, kCall_some, o1_at, isiO_at, kIsi_some, tyD_non, tyD_bl, tyD_int, tyD_str, tyD_tup, eBM_at, kbm1_some, kbm2_some, eSl_at, ks2_some, ks3_some, ks4_some, oNone_at, oSome_at, kSome_int, slO_str, sSeq_at, kSeq_nx, kSeq_rt, kSeq_bk, kSeq_ct, sNext_at, sBreak_at, sCont_at, sRetN_at, sRet_at, kRet_some, sExpr_at, kExpr_some, sSet_at, kSet_some, sIf_at, kIf_true, kIf_false, sPar2_k, kPar2_some, sPar3_k, kPar3_some, sAsg_at, kAsg_some, kAsg2_some, mName_at, mTup_2, mTup_3, mCons_at, kmCons_some, mNil_at, sPut_at, kp1_some, kp2_some, kp3_some, kp4_some, kFn_rt, kFn_nx, mkFn_0, mkFn_1, mkFn_2, mkFn_3, mkFn_4, mkFn_5, sWhile_at, List.getElem?_cons_zero, List.getElem?_cons_succ, List.set_cons_zero, List.set_cons_succ, List.replicate_succ, List.replicate_zero, Nat.reduceSub, Bool.not_true, Bool.not_false, ite_true, ite_false, if_true, if_false, reduceCtorEq, fldM_at, sFldM_at, kSF1_some, kSF2_some, kSF3_some, sFldAddM_at, kSA1_some, kSA2_int, eMake_at, kMk1_some, kMk2_some, isCM_at, isCO_non, eGet1_at, kG12_some, kG13_some, eGet2_at, kG22_some, kG23_some, eCallD_at, kCallD_some, eKdx_at, kKdx_some, kIsB_at, atI0, atI1, eq_str, ixO_tup, lenO_tup, mTup_2, List.cons.injEq, Nat.reduceEqDiff, decide_false, decide_true, and_false, and_true, false_and, true_and, Bool.or_false, Bool.or_true, Bool.true_or, Bool.false_or, Bool.and_true, Bool.and_false, Bool.false_and, Bool.true_and, Int.reduceLE, Int.reduceLT, rec_non h]
abbrev D3 : List (Sum Int Str × D) := [(.inr (mkS [119, 111, 114, 100]), aNo), (.inr (mkS [99, 97, 117, 115, 101]), aNo), (.inr (mkS [99, 111, 110, 116, 101, 120, 116]), aNo)]
theorem disp3 (ρ : Rho) (st : Sto) : eDisp (psCons (eC (.str [119, 111, 114, 100])) (eC aNo) (psCons (eC (.str [99, 97, 117, 115, 101])) (eC aNo) (psCons (eC (.str [99, 111, 110, 116, 101, 120, 116])) (eC aNo) psNil))) ρ st = some (.ref st.length, st ++ [.dic D3]) := by
  have h1 : myD (st ++ [Ob.dic []]) st.length = some [] := by
    unfold myD
    rw [at_end]
  have h2 : mergeD ([] : List (Sum Int Str × D)) D3 = D3 := by rfl
  simp only [eDisp, psCons, psNil, eVar_at, kVar_some, eC_at, eBin_at, k2_some, k3_some, eUn_at, k1_some, kVal_some, kBl_some, kEq_at, kBlN_some, kNe_at, kIn_at, kNotIn_at, kIx_at, ixO_tup, kLt_int, kLe_int, kGt_int, kGe_int, kLt_str, kLe_str, kGt_str, kGe_str, kIs_non, kIs_bl, kIs_int, kIs_str, kIs_tup, kIs_ref, kIsNot_non, kIsNot_bl, kIsNot_int, kIsNot_str, kIsNot_tup, kIsNot_ref, opAdd_int, opAdd_str, opSub_int, opMul_int, opDiv_int, opMod_int, opPow_int, opAnd_int, opOr_int, opNeg_int, eChain_at, kc1_some, kc2_some, kc3_true, kc3_false, kc4_some, tOf_at, kTru_some, kTru2_some, truD_non, truD_bl, truD_int, truD_tup, tAnd_at, kAnd_true, kAnd_false, tOr_at, kOr_true, kOr_false, tNot_at, kNot_some, tYes_at, eAnd_at, keAnd_some, keAnd2_true, keAnd2_false, eOr_at, keOr_some, keOr2_true, keOr2_false, eNot_at, keNot_some, keNot2_some, eIf_at, keIf_true, keIf_false, aNil_at, aCons_at, ka1_some, ka2_some, eTup_at, kTup_0, kTup_1, kTup_2, kTup_3, kTup_4, kTup_5, kTup_6, eLst_at, kLst_0, kLst_1, kLst_2, kLst_3, kLst_4, eDic0_at, eCall_at, kCall_some, o1_at, isiO_at, kIsi_some, tyD_non, tyD_bl, tyD_int, tyD_str, tyD_tup, eBM_at, kbm1_some, kbm2_some, eSl_at, ks2_some, ks3_some, ks4_some, oNone_at, oSome_at, kSome_int, slO_str, sSeq_at, kSeq_nx, kSeq_rt, kSeq_bk, kSeq_ct, sNext_at, sBreak_at, sCont_at, sRetN_at, sRet_at, kRet_some, sExpr_at, kExpr_some, sSet_at, kSet_some, sIf_at, kIf_true, kIf_false, sPar2_k, kPar2_some, sPar3_k, kPar3_some, sAsg_at, kAsg_some, kAsg2_some, mName_at, mTup_2, mTup_3, mCons_at, kmCons_some, mNil_at, sPut_at, kp1_some, kp2_some, kp3_some, kp4_some, kFn_rt, kFn_nx, mkFn_0, mkFn_1, mkFn_2, mkFn_3, mkFn_4, mkFn_5, sWhile_at, List.getElem?_cons_zero, List.getElem?_cons_succ, List.set_cons_zero, List.set_cons_succ, List.replicate_succ, List.replicate_zero, Nat.reduceSub, Bool.not_true, Bool.not_false, ite_true, ite_false, if_true, if_false, reduceCtorEq, fldM_at, sFldM_at, kSF1_some, kSF2_some, kSF3_some, sFldAddM_at, kSA1_some, kSA2_int, eMake_at, kMk1_some, kMk2_some, isCM_at, isCO_non, eGet1_at, kG12_some, kG13_some, eGet2_at, kG22_some, kG23_some, eCallD_at, kCallD_some, eKdx_at, kKdx_some, kIsB_at, atI0, atI1, eq_str, ixO_tup, lenO_tup, mTup_2, List.cons.injEq, Nat.reduceEqDiff, decide_false, decide_true, and_false, and_true, false_and, true_and, Bool.or_false, Bool.or_true, Bool.true_or, Bool.false_or, Bool.and_true, Bool.and_false, Bool.false_and, Bool.true_and, Int.reduceLE, Int.reduceLT, Option.bind_some, Option.map_some, keysO, keyOf, h1, h2, List.length_cons, List.length_nil, Nat.reduceAdd, Nat.reduceLeDiff]
  exact congrArg (fun z => some (D.ref st.length, z)) (set_end st _ _ [])
theorem made_is (w : Wd ths st) (hz : ths.length < 99000) {k : Int} (hk : FK k) {n : List Nat} (kn : valD GIV (.inr (mkS n)) = some (th k)) :
    ∃ st' f, F_made [.ref 4, .str n, .non] st = some (th (ths.length : Nat), st') ∧ Wd (ths ++ [st.length + 2]) st' ∧ st'[st.length + 2]? = some (recF k f) ∧ Only [7] st st' := by
  have w1 : Wd ths (st ++ [Ob.dic []]) := w.grow
  have w2 : Wd ths (st ++ [Ob.dic []] ++ [Ob.dic D3]) := w1.grow
  have w3 : Wd ths (st ++ [Ob.dic []] ++ [Ob.dic D3] ++ [Ob.ins 5 [("kind", th k), ("fields", .ref (st ++ [Ob.dic []]).length)]]) := w2.grow
  have hl : (st ++ [Ob.dic []] ++ [Ob.dic D3]).length = st.length + 2 := by simp
  have p := put_is w3 (st.length + 2)
  have m := made_init (st ++ [Ob.dic []] ++ [Ob.dic D3]) (th k) (.ref (st ++ [Ob.dic []]).length)
  have kk := known_is w kn
  rw [hl] at m
  have n1 : F_new_object [.ref 4, th k] st = some (th (ths.length : Nat), (st ++ [Ob.dic []] ++ [Ob.dic D3] ++ [Ob.ins 5 [("kind", th k), ("fields", .ref (st ++ [Ob.dic []]).length)]]).set 7 (.lst ((ths ++ [st.length + 2]).map D.ref))) := by
    simp only [F_new_object, b_new_object, eVar_at, kVar_some, eC_at, eBin_at, k2_some, k3_some, eUn_at, k1_some, kVal_some, kBl_some, kEq_at, kBlN_some, kNe_at, kIn_at, kNotIn_at, kIx_at, ixO_tup, kLt_int, kLe_int, kGt_int, kGe_int, kLt_str, kLe_str, kGt_str, kGe_str, kIs_non, kIs_bl, kIs_int, kIs_str, kIs_tup, kIs_ref, kIsNot_non, kIsNot_bl, kIsNot_int, kIsNot_str, kIsNot_tup, kIsNot_ref, opAdd_int, opAdd_str, opSub_int, opMul_int, opDiv_int, opMod_int, opPow_int, opAnd_int, opOr_int, opNeg_int, eChain_at, kc1_some, kc2_some, kc3_true, kc3_false, kc4_some, tOf_at, kTru_some, kTru2_some, truD_non, truD_bl, truD_int, truD_tup, tAnd_at, kAnd_true, kAnd_false, tOr_at, kOr_true, kOr_false, tNot_at, kNot_some, tYes_at, eAnd_at, keAnd_some, keAnd2_true, keAnd2_false, eOr_at, keOr_some, keOr2_true, keOr2_false, eNot_at, keNot_some, keNot2_some, eIf_at, keIf_true, keIf_false, aNil_at, aCons_at, ka1_some, ka2_some, eTup_at, kTup_0, kTup_1, kTup_2, kTup_3, kTup_4, kTup_5, kTup_6, eLst_at, kLst_0, kLst_1, kLst_2, kLst_3, kLst_4, eDic0_at, eCall_at, kCall_some, o1_at, isiO_at, kIsi_some, tyD_non, tyD_bl, tyD_int, tyD_str, tyD_tup, eBM_at, kbm1_some, kbm2_some, eSl_at, ks2_some, ks3_some, ks4_some, oNone_at, oSome_at, kSome_int, slO_str, sSeq_at, kSeq_nx, kSeq_rt, kSeq_bk, kSeq_ct, sNext_at, sBreak_at, sCont_at, sRetN_at, sRet_at, kRet_some, sExpr_at, kExpr_some, sSet_at, kSet_some, sIf_at, kIf_true, kIf_false, sPar2_k, kPar2_some, sPar3_k, kPar3_some, sAsg_at, kAsg_some, kAsg2_some, mName_at, mTup_2, mTup_3, mCons_at, kmCons_some, mNil_at, sPut_at, kp1_some, kp2_some, kp3_some, kp4_some, kFn_rt, kFn_nx, mkFn_0, mkFn_1, mkFn_2, mkFn_3, mkFn_4, mkFn_5, sWhile_at, List.getElem?_cons_zero, List.getElem?_cons_succ, List.set_cons_zero, List.set_cons_succ, List.replicate_succ, List.replicate_zero, Nat.reduceSub, Bool.not_true, Bool.not_false, ite_true, ite_false, if_true, if_false, reduceCtorEq, fldM_at, sFldM_at, kSF1_some, kSF2_some, kSF3_some, sFldAddM_at, kSA1_some, kSA2_int, eMake_at, kMk1_some, kMk2_some, isCM_at, isCO_non, eGet1_at, kG12_some, kG13_some, eGet2_at, kG22_some, kG23_some, eCallD_at, kCallD_some, eKdx_at, kKdx_some, kIsB_at, atI0, atI1, eq_str, ixO_tup, lenO_tup, mTup_2, List.cons.injEq, Nat.reduceEqDiff, decide_false, decide_true, and_false, and_true, false_and, true_and, Bool.or_false, Bool.or_true, Bool.true_or, Bool.false_or, Bool.and_true, Bool.and_false, Bool.false_and, Bool.true_and, Int.reduceLE, Int.reduceLT, class_is w1 hk, disp3, hl, m, p]
  refine ⟨_, .ref (st ++ [Ob.dic []]).length, ?_, w3.put (st.length + 2) (by omega), ?_, ?_⟩
  · simp only [F_made, b_made, eVar_at, kVar_some, eC_at, eBin_at, k2_some, k3_some, eUn_at, k1_some, kVal_some, kBl_some, kEq_at, kBlN_some, kNe_at, kIn_at, kNotIn_at, kIx_at, ixO_tup, kLt_int, kLe_int, kGt_int, kGe_int, kLt_str, kLe_str, kGt_str, kGe_str, kIs_non, kIs_bl, kIs_int, kIs_str, kIs_tup, kIs_ref, kIsNot_non, kIsNot_bl, kIsNot_int, kIsNot_str, kIsNot_tup, kIsNot_ref, opAdd_int, opAdd_str, opSub_int, opMul_int, opDiv_int, opMod_int, opPow_int, opAnd_int, opOr_int, opNeg_int, eChain_at, kc1_some, kc2_some, kc3_true, kc3_false, kc4_some, tOf_at, kTru_some, kTru2_some, truD_non, truD_bl, truD_int, truD_tup, tAnd_at, kAnd_true, kAnd_false, tOr_at, kOr_true, kOr_false, tNot_at, kNot_some, tYes_at, eAnd_at, keAnd_some, keAnd2_true, keAnd2_false, eOr_at, keOr_some, keOr2_true, keOr2_false, eNot_at, keNot_some, keNot2_some, eIf_at, keIf_true, keIf_false, aNil_at, aCons_at, ka1_some, ka2_some, eTup_at, kTup_0, kTup_1, kTup_2, kTup_3, kTup_4, kTup_5, kTup_6, eLst_at, kLst_0, kLst_1, kLst_2, kLst_3, kLst_4, eDic0_at, eCall_at, kCall_some, o1_at, isiO_at, kIsi_some, tyD_non, tyD_bl, tyD_int, tyD_str, tyD_tup, eBM_at, kbm1_some, kbm2_some, eSl_at, ks2_some, ks3_some, ks4_some, oNone_at, oSome_at, kSome_int, slO_str, sSeq_at, kSeq_nx, kSeq_rt, kSeq_bk, kSeq_ct, sNext_at, sBreak_at, sCont_at, sRetN_at, sRet_at, kRet_some, sExpr_at, kExpr_some, sSet_at, kSet_some, sIf_at, kIf_true, kIf_false, sPar2_k, kPar2_some, sPar3_k, kPar3_some, sAsg_at, kAsg_some, kAsg2_some, mName_at, mTup_2, mTup_3, mCons_at, kmCons_some, mNil_at, sPut_at, kp1_some, kp2_some, kp3_some, kp4_some, kFn_rt, kFn_nx, mkFn_0, mkFn_1, mkFn_2, mkFn_3, mkFn_4, mkFn_5, sWhile_at, List.getElem?_cons_zero, List.getElem?_cons_succ, List.set_cons_zero, List.set_cons_succ, List.replicate_succ, List.replicate_zero, Nat.reduceSub, Bool.not_true, Bool.not_false, ite_true, ite_false, if_true, if_false, reduceCtorEq, fldM_at, sFldM_at, kSF1_some, kSF2_some, kSF3_some, sFldAddM_at, kSA1_some, kSA2_int, eMake_at, kMk1_some, kMk2_some, isCM_at, isCO_non, eGet1_at, kG12_some, kG13_some, eGet2_at, kG22_some, kG23_some, eCallD_at, kCallD_some, eKdx_at, kKdx_some, kIsB_at, atI0, atI1, eq_str, ixO_tup, lenO_tup, mTup_2, List.cons.injEq, Nat.reduceEqDiff, decide_false, decide_true, and_false, and_true, false_and, true_and, Bool.or_false, Bool.or_true, Bool.true_or, Bool.false_or, Bool.and_true, Bool.and_false, Bool.false_and, Bool.true_and, Int.reduceLE, Int.reduceLT, kk, n1]
  · have h7 : 7 < st.length := (List.getElem?_eq_some_iff.mp w.t).1
    rw [List.getElem?_set_ne (by omega), ← hl]
    exact at_end _ _ []
  · rw [List.append_assoc, List.append_assoc]
    exact Only.grow.trans (Only.set (.head _))
theorem count_is (w : Wd ths st) (hz : ths.length < 99000) {e : Int} (he : e ≤ 10000) :
    ∃ st', F_count_giver [.ref 4, .tup [.str [110, 117, 109, 98, 101, 114], .int e]] st = some (.tup [.str [118, 97, 108, 117, 101], th (ths.length : Nat)], st') ∧ Wd (ths ++ [st.length]) st' ∧ st'[st.length]? = some (recG (.str [99, 111, 117, 110, 116]) .non (.int e) (.int 0) (.str sNew)) ∧ Only [7] st st' := by
  have w3 : Wd ths (st ++ [recG (.str [99, 111, 117, 110, 116]) .non (.int e) (.int 0) (.str sNew)]) := w.grow
  have p := put_is w3 st.length
  have m := giver_init st (.str [99, 111, 117, 110, 116]) .non (.int e)
  have h7 : 7 < st.length := (List.getElem?_eq_some_iff.mp w.t).1
  have hg : ¬ (10000 : Int) < e := by omega
  refine ⟨_, ?_, w3.put st.length (by omega), ?_, Only.grow.trans (Only.set (.head _))⟩
  · simp only [F_count_giver, b_count_giver, eVar_at, kVar_some, eC_at, eBin_at, k2_some, k3_some, eUn_at, k1_some, kVal_some, kBl_some, kEq_at, kBlN_some, kNe_at, kIn_at, kNotIn_at, kIx_at, ixO_tup, kLt_int, kLe_int, kGt_int, kGe_int, kLt_str, kLe_str, kGt_str, kGe_str, kIs_non, kIs_bl, kIs_int, kIs_str, kIs_tup, kIs_ref, kIsNot_non, kIsNot_bl, kIsNot_int, kIsNot_str, kIsNot_tup, kIsNot_ref, opAdd_int, opAdd_str, opSub_int, opMul_int, opDiv_int, opMod_int, opPow_int, opAnd_int, opOr_int, opNeg_int, eChain_at, kc1_some, kc2_some, kc3_true, kc3_false, kc4_some, tOf_at, kTru_some, kTru2_some, truD_non, truD_bl, truD_int, truD_tup, tAnd_at, kAnd_true, kAnd_false, tOr_at, kOr_true, kOr_false, tNot_at, kNot_some, tYes_at, eAnd_at, keAnd_some, keAnd2_true, keAnd2_false, eOr_at, keOr_some, keOr2_true, keOr2_false, eNot_at, keNot_some, keNot2_some, eIf_at, keIf_true, keIf_false, aNil_at, aCons_at, ka1_some, ka2_some, eTup_at, kTup_0, kTup_1, kTup_2, kTup_3, kTup_4, kTup_5, kTup_6, eLst_at, kLst_0, kLst_1, kLst_2, kLst_3, kLst_4, eDic0_at, eCall_at, kCall_some, o1_at, isiO_at, kIsi_some, tyD_non, tyD_bl, tyD_int, tyD_str, tyD_tup, eBM_at, kbm1_some, kbm2_some, eSl_at, ks2_some, ks3_some, ks4_some, oNone_at, oSome_at, kSome_int, slO_str, sSeq_at, kSeq_nx, kSeq_rt, kSeq_bk, kSeq_ct, sNext_at, sBreak_at, sCont_at, sRetN_at, sRet_at, kRet_some, sExpr_at, kExpr_some, sSet_at, kSet_some, sIf_at, kIf_true, kIf_false, sPar2_k, kPar2_some, sPar3_k, kPar3_some, sAsg_at, kAsg_some, kAsg2_some, mName_at, mTup_2, mTup_3, mCons_at, kmCons_some, mNil_at, sPut_at, kp1_some, kp2_some, kp3_some, kp4_some, kFn_rt, kFn_nx, mkFn_0, mkFn_1, mkFn_2, mkFn_3, mkFn_4, mkFn_5, sWhile_at, List.getElem?_cons_zero, List.getElem?_cons_succ, List.set_cons_zero, List.set_cons_succ, List.replicate_succ, List.replicate_zero, Nat.reduceSub, Bool.not_true, Bool.not_false, ite_true, ite_false, if_true, if_false, reduceCtorEq, fldM_at, sFldM_at, kSF1_some, kSF2_some, kSF3_some, sFldAddM_at, kSA1_some, kSA2_int, eMake_at, kMk1_some, kMk2_some, isCM_at, isCO_non, eGet1_at, kG12_some, kG13_some, eGet2_at, kG22_some, kG23_some, eCallD_at, kCallD_some, eKdx_at, kKdx_some, kIsB_at, atI0, atI1, eq_str, ixO_tup, lenO_tup, mTup_2, List.cons.injEq, Nat.reduceEqDiff, decide_false, decide_true, and_false, and_true, false_and, true_and, Bool.or_false, Bool.or_true, Bool.true_or, Bool.false_or, Bool.and_true, Bool.and_false, Bool.false_and, Bool.true_and, Int.reduceLE, Int.reduceLT, hg, m, p]
  · rw [List.getElem?_set_ne (by omega)]
    exact at_end _ _ []
theorem giver_make (w : Wd ths st) (hz : ths.length < 99000) (nm fr : D) :
    ∃ st', F_giver [.ref 4, nm, fr] st = some (th (ths.length : Nat), st') ∧ Wd (ths ++ [st.length]) st' ∧ st'[st.length]? = some (recG nm fr (.int 0) (.int 0) (.str sNew)) ∧ Only [7] st st' := by
  have w3 : Wd ths (st ++ [recG nm fr (.int 0) (.int 0) (.str sNew)]) := w.grow
  have p := put_is w3 st.length
  have m := giver_init st nm fr (.int 0)
  have h7 : 7 < st.length := (List.getElem?_eq_some_iff.mp w.t).1
  refine ⟨_, ?_, w3.put st.length (by omega), ?_, Only.grow.trans (Only.set (.head _))⟩
  · simp only [F_giver, b_giver, eVar_at, kVar_some, eC_at, eBin_at, k2_some, k3_some, eUn_at, k1_some, kVal_some, kBl_some, kEq_at, kBlN_some, kNe_at, kIn_at, kNotIn_at, kIx_at, ixO_tup, kLt_int, kLe_int, kGt_int, kGe_int, kLt_str, kLe_str, kGt_str, kGe_str, kIs_non, kIs_bl, kIs_int, kIs_str, kIs_tup, kIs_ref, kIsNot_non, kIsNot_bl, kIsNot_int, kIsNot_str, kIsNot_tup, kIsNot_ref, opAdd_int, opAdd_str, opSub_int, opMul_int, opDiv_int, opMod_int, opPow_int, opAnd_int, opOr_int, opNeg_int, eChain_at, kc1_some, kc2_some, kc3_true, kc3_false, kc4_some, tOf_at, kTru_some, kTru2_some, truD_non, truD_bl, truD_int, truD_tup, tAnd_at, kAnd_true, kAnd_false, tOr_at, kOr_true, kOr_false, tNot_at, kNot_some, tYes_at, eAnd_at, keAnd_some, keAnd2_true, keAnd2_false, eOr_at, keOr_some, keOr2_true, keOr2_false, eNot_at, keNot_some, keNot2_some, eIf_at, keIf_true, keIf_false, aNil_at, aCons_at, ka1_some, ka2_some, eTup_at, kTup_0, kTup_1, kTup_2, kTup_3, kTup_4, kTup_5, kTup_6, eLst_at, kLst_0, kLst_1, kLst_2, kLst_3, kLst_4, eDic0_at, eCall_at, kCall_some, o1_at, isiO_at, kIsi_some, tyD_non, tyD_bl, tyD_int, tyD_str, tyD_tup, eBM_at, kbm1_some, kbm2_some, eSl_at, ks2_some, ks3_some, ks4_some, oNone_at, oSome_at, kSome_int, slO_str, sSeq_at, kSeq_nx, kSeq_rt, kSeq_bk, kSeq_ct, sNext_at, sBreak_at, sCont_at, sRetN_at, sRet_at, kRet_some, sExpr_at, kExpr_some, sSet_at, kSet_some, sIf_at, kIf_true, kIf_false, sPar2_k, kPar2_some, sPar3_k, kPar3_some, sAsg_at, kAsg_some, kAsg2_some, mName_at, mTup_2, mTup_3, mCons_at, kmCons_some, mNil_at, sPut_at, kp1_some, kp2_some, kp3_some, kp4_some, kFn_rt, kFn_nx, mkFn_0, mkFn_1, mkFn_2, mkFn_3, mkFn_4, mkFn_5, sWhile_at, List.getElem?_cons_zero, List.getElem?_cons_succ, List.set_cons_zero, List.set_cons_succ, List.replicate_succ, List.replicate_zero, Nat.reduceSub, Bool.not_true, Bool.not_false, ite_true, ite_false, if_true, if_false, reduceCtorEq, fldM_at, sFldM_at, kSF1_some, kSF2_some, kSF3_some, sFldAddM_at, kSA1_some, kSA2_int, eMake_at, kMk1_some, kMk2_some, isCM_at, isCO_non, eGet1_at, kG12_some, kG13_some, eGet2_at, kG22_some, kG23_some, eCallD_at, kCallD_some, eKdx_at, kKdx_some, kIsB_at, atI0, atI1, eq_str, ixO_tup, lenO_tup, mTup_2, List.cons.injEq, Nat.reduceEqDiff, decide_false, decide_true, and_false, and_true, false_and, true_and, Bool.or_false, Bool.or_true, Bool.true_or, Bool.false_or, Bool.and_true, Bool.and_false, Bool.false_and, Bool.true_and, Int.reduceLE, Int.reduceLT, m, p]
  · rw [List.getElem?_set_ne (by omega)]
    exact at_end _ _ []
end
end Math

set_option maxRecDepth 100000
set_option maxHeartbeats 4000000
namespace Math
open MP Text PySem
section
variable {ths : List Nat} {st : Sto} (w : Wd ths st)
include w
theorem to_go (x : D) : F_called [.ref 4, th 17, x] st = F_called_given [.ref 4, .str [103, 111], x] st := called_to w (i := 17) (r := 38) (n := [103, 111]) (ths_fix w (by rfl)) (w.f (38, given [103, 111]) (List.mem_of_getElem? (i := 19) (by rfl)))
theorem to_throw (x : D) : F_called [.ref 4, th 18, x] st = F_called_given [.ref 4, .str [116, 104, 114, 111, 119], x] st := called_to w (i := 18) (r := 39) (n := [116, 104, 114, 111, 119]) (ths_fix w (by rfl)) (w.f (39, given [116, 104, 114, 111, 119]) (List.mem_of_getElem? (i := 20) (by rfl)))
theorem to_shut (x : D) : F_called [.ref 4, th 19, x] st = F_called_given [.ref 4, .str [115, 104, 117, 116], x] st := called_to w (i := 19) (r := 40) (n := [115, 104, 117, 116]) (ths_fix w (by rfl)) (w.f (40, given [115, 104, 117, 116]) (List.mem_of_getElem? (i := 21) (by rfl)))
theorem to_count (x : D) : F_called [.ref 4, th 16, x] st = F_called_given [.ref 4, .str [99, 111, 117, 110, 116], x] st := called_to w (i := 16) (r := 37) (n := [99, 111, 117, 110, 116]) (ths_fix w (by rfl)) (w.f (37, given [99, 111, 117, 110, 116]) (List.mem_of_getElem? (i := 18) (by rfl)))
theorem kn_go : F_known [.ref 4, .str [103, 111]] st = some (th 17, st) := known_is w (by rfl)
theorem kn_throw : F_known [.ref 4, .str [116, 104, 114, 111, 119]] st = some (th 18, st) := known_is w (by rfl)
theorem kn_shut : F_known [.ref 4, .str [115, 104, 117, 116]] st = some (th 19, st) := known_is w (by rfl)
theorem kn_count : F_known [.ref 4, .str [99, 111, 117, 110, 116]] st = some (th 16, st) := known_is w (by rfl)
theorem kn_Fault : F_known [.ref 4, .str [70, 97, 117, 108, 116]] st = some (th 1, st) := known_is w (by rfl)
end
theorem eq_no (st : Sto) : eqO st aNo aNo = some true := eqO_self (PD_tup (by simp) (memC trivial memN))
section
variable {ths : List Nat} {st : Sto} {i r : Nat} {nm fr en at_ v : D} {s : List Nat} {b : Bool} (w : Wd ths st) (h : ths[i]? = some r)
include w h
theorem call_go1 (hr : st[r]? = some (recG nm fr en at_ (.str s))) (hs : St4 s) : F_called [.ref 4, th 17, .tup [th (i : Nat)]] st = some (goA s true (isNon fr) (th (i : Nat)) aNo, st) := by
  rw [to_go w, given_go (by simp) (by simp)]
  have c1 : F_is_giver [.ref 4, th (i : Nat)] st = some (.bl true, st) := giver_of w h hr (by decide)
  have c2 : (1 : Int) < (([th (i : Nat)] : List D).length : Int) ↔ False := by simp
  simp only [F_called_giver, b_called_giver, eVar_at, kVar_some, eC_at, eBin_at, k2_some, k3_some, eUn_at, k1_some, kVal_some, kBl_some, kEq_at, kBlN_some, kNe_at, kIn_at, kNotIn_at, kIx_at, ixO_tup, kLt_int, kLe_int, kGt_int, kGe_int, kLt_str, kLe_str, kGt_str, kGe_str, kIs_non, kIs_bl, kIs_int, kIs_str, kIs_tup, kIs_ref, kIsNot_non, kIsNot_bl, kIsNot_int, kIsNot_str, kIsNot_tup, kIsNot_ref, opAdd_int, opAdd_str, opSub_int, opMul_int, opDiv_int, opMod_int, opPow_int, opAnd_int, opOr_int, opNeg_int, eChain_at, kc1_some, kc2_some, kc3_true, kc3_false, kc4_some, tOf_at, kTru_some, kTru2_some, truD_non, truD_bl, truD_int, truD_tup, tAnd_at, kAnd_true, kAnd_false, tOr_at, kOr_true, kOr_false, tNot_at, kNot_some, tYes_at, eAnd_at, keAnd_some, keAnd2_true, keAnd2_false, eOr_at, keOr_some, keOr2_true, keOr2_false, eNot_at, keNot_some, keNot2_some, eIf_at, keIf_true, keIf_false, aNil_at, aCons_at, ka1_some, ka2_some, eTup_at, kTup_0, kTup_1, kTup_2, kTup_3, kTup_4, kTup_5, kTup_6, eLst_at, kLst_0, kLst_1, kLst_2, kLst_3, kLst_4, eDic0_at, eCall_at, kCall_some, o1_at, isiO_at, kIsi_some, tyD_non, tyD_bl, tyD_int, tyD_str, tyD_tup, eBM_at, kbm1_some, kbm2_some, eSl_at, ks2_some, ks3_some, ks4_some, oNone_at, oSome_at, kSome_int, slO_str, sSeq_at, kSeq_nx, kSeq_rt, kSeq_bk, kSeq_ct, sNext_at, sBreak_at, sCont_at, sRetN_at, sRet_at, kRet_some, sExpr_at, kExpr_some, sSet_at, kSet_some, sIf_at, kIf_true, kIf_false, sPar2_k, kPar2_some, sPar3_k, kPar3_some, sAsg_at, kAsg_some, kAsg2_some, mName_at, mTup_2, mTup_3, mCons_at, kmCons_some, mNil_at, sPut_at, kp1_some, kp2_some, kp3_some, kp4_some, kFn_rt, kFn_nx, mkFn_0, mkFn_1, mkFn_2, mkFn_3, mkFn_4, mkFn_5, sWhile_at, List.getElem?_cons_zero, List.getElem?_cons_succ, List.set_cons_zero, List.set_cons_succ, List.replicate_succ, List.replicate_zero, Nat.reduceSub, Bool.not_true, Bool.not_false, ite_true, ite_false, if_true, if_false, reduceCtorEq, fldM_at, sFldM_at, kSF1_some, kSF2_some, kSF3_some, sFldAddM_at, kSA1_some, kSA2_int, eMake_at, kMk1_some, kMk2_some, isCM_at, isCO_non, eGet1_at, kG12_some, kG13_some, eGet2_at, kG22_some, kG23_some, eCallD_at, kCallD_some, eKdx_at, kKdx_some, kIsB_at, atI0, atI1, eq_str, ixO_tup, lenO_tup, mTup_2, List.cons.injEq, Nat.reduceEqDiff, decide_false, decide_true, and_false, and_true, false_and, true_and, Bool.or_false, Bool.or_true, Bool.true_or, Bool.false_or, Bool.and_true, Bool.and_false, Bool.false_and, Bool.true_and, Int.reduceLE, Int.reduceLT, c1, c2, gone_is w h hr hs (eq_no st)]
theorem call_go2 (hr : st[r]? = some (recG nm fr en at_ (.str s))) (hs : St4 s) (hv : eqO st v aNo = some b) : F_called [.ref 4, th 17, .tup [th (i : Nat), v]] st = some (goA s b (isNon fr) (th (i : Nat)) v, st) := by
  rw [to_go w, given_go (by simp) (by simp)]
  have c1 : F_is_giver [.ref 4, th (i : Nat)] st = some (.bl true, st) := giver_of w h hr (by decide)
  have c2 : (1 : Int) < (([th (i : Nat), v] : List D).length : Int) ↔ True := by simp
  simp only [F_called_giver, b_called_giver, eVar_at, kVar_some, eC_at, eBin_at, k2_some, k3_some, eUn_at, k1_some, kVal_some, kBl_some, kEq_at, kBlN_some, kNe_at, kIn_at, kNotIn_at, kIx_at, ixO_tup, kLt_int, kLe_int, kGt_int, kGe_int, kLt_str, kLe_str, kGt_str, kGe_str, kIs_non, kIs_bl, kIs_int, kIs_str, kIs_tup, kIs_ref, kIsNot_non, kIsNot_bl, kIsNot_int, kIsNot_str, kIsNot_tup, kIsNot_ref, opAdd_int, opAdd_str, opSub_int, opMul_int, opDiv_int, opMod_int, opPow_int, opAnd_int, opOr_int, opNeg_int, eChain_at, kc1_some, kc2_some, kc3_true, kc3_false, kc4_some, tOf_at, kTru_some, kTru2_some, truD_non, truD_bl, truD_int, truD_tup, tAnd_at, kAnd_true, kAnd_false, tOr_at, kOr_true, kOr_false, tNot_at, kNot_some, tYes_at, eAnd_at, keAnd_some, keAnd2_true, keAnd2_false, eOr_at, keOr_some, keOr2_true, keOr2_false, eNot_at, keNot_some, keNot2_some, eIf_at, keIf_true, keIf_false, aNil_at, aCons_at, ka1_some, ka2_some, eTup_at, kTup_0, kTup_1, kTup_2, kTup_3, kTup_4, kTup_5, kTup_6, eLst_at, kLst_0, kLst_1, kLst_2, kLst_3, kLst_4, eDic0_at, eCall_at, kCall_some, o1_at, isiO_at, kIsi_some, tyD_non, tyD_bl, tyD_int, tyD_str, tyD_tup, eBM_at, kbm1_some, kbm2_some, eSl_at, ks2_some, ks3_some, ks4_some, oNone_at, oSome_at, kSome_int, slO_str, sSeq_at, kSeq_nx, kSeq_rt, kSeq_bk, kSeq_ct, sNext_at, sBreak_at, sCont_at, sRetN_at, sRet_at, kRet_some, sExpr_at, kExpr_some, sSet_at, kSet_some, sIf_at, kIf_true, kIf_false, sPar2_k, kPar2_some, sPar3_k, kPar3_some, sAsg_at, kAsg_some, kAsg2_some, mName_at, mTup_2, mTup_3, mCons_at, kmCons_some, mNil_at, sPut_at, kp1_some, kp2_some, kp3_some, kp4_some, kFn_rt, kFn_nx, mkFn_0, mkFn_1, mkFn_2, mkFn_3, mkFn_4, mkFn_5, sWhile_at, List.getElem?_cons_zero, List.getElem?_cons_succ, List.set_cons_zero, List.set_cons_succ, List.replicate_succ, List.replicate_zero, Nat.reduceSub, Bool.not_true, Bool.not_false, ite_true, ite_false, if_true, if_false, reduceCtorEq, fldM_at, sFldM_at, kSF1_some, kSF2_some, kSF3_some, sFldAddM_at, kSA1_some, kSA2_int, eMake_at, kMk1_some, kMk2_some, isCM_at, isCO_non, eGet1_at, kG12_some, kG13_some, eGet2_at, kG22_some, kG23_some, eCallD_at, kCallD_some, eKdx_at, kKdx_some, kIsB_at, atI0, atI1, eq_str, ixO_tup, lenO_tup, mTup_2, List.cons.injEq, Nat.reduceEqDiff, decide_false, decide_true, and_false, and_true, false_and, true_and, Bool.or_false, Bool.or_true, Bool.true_or, Bool.false_or, Bool.and_true, Bool.and_false, Bool.false_and, Bool.true_and, Int.reduceLE, Int.reduceLT, c1, c2, gone_is w h hr hs hv]
theorem call_throw (hr : st[r]? = some (recG nm fr en at_ (.str s))) (hs : St4 s) {k : Int} (hk : FK k) {j q : Nat} {f : D} (hj : ths[j]? = some q) (hq : st[q]? = some (recF k f)) :
    F_called [.ref 4, th 18, .tup [th (i : Nat), th (j : Nat)]] st = some (thrA s (th (i : Nat)) (th (j : Nat)), st) := by
  rw [to_throw w, given_throw (by simp) (by simp)]
  have c1 : F_is_giver [.ref 4, th (i : Nat)] st = some (.bl true, st) := giver_of w h hr (by decide)
  simp only [F_called_giver, b_called_giver, eVar_at, kVar_some, eC_at, eBin_at, k2_some, k3_some, eUn_at, k1_some, kVal_some, kBl_some, kEq_at, kBlN_some, kNe_at, kIn_at, kNotIn_at, kIx_at, ixO_tup, kLt_int, kLe_int, kGt_int, kGe_int, kLt_str, kLe_str, kGt_str, kGe_str, kIs_non, kIs_bl, kIs_int, kIs_str, kIs_tup, kIs_ref, kIsNot_non, kIsNot_bl, kIsNot_int, kIsNot_str, kIsNot_tup, kIsNot_ref, opAdd_int, opAdd_str, opSub_int, opMul_int, opDiv_int, opMod_int, opPow_int, opAnd_int, opOr_int, opNeg_int, eChain_at, kc1_some, kc2_some, kc3_true, kc3_false, kc4_some, tOf_at, kTru_some, kTru2_some, truD_non, truD_bl, truD_int, truD_tup, tAnd_at, kAnd_true, kAnd_false, tOr_at, kOr_true, kOr_false, tNot_at, kNot_some, tYes_at, eAnd_at, keAnd_some, keAnd2_true, keAnd2_false, eOr_at, keOr_some, keOr2_true, keOr2_false, eNot_at, keNot_some, keNot2_some, eIf_at, keIf_true, keIf_false, aNil_at, aCons_at, ka1_some, ka2_some, eTup_at, kTup_0, kTup_1, kTup_2, kTup_3, kTup_4, kTup_5, kTup_6, eLst_at, kLst_0, kLst_1, kLst_2, kLst_3, kLst_4, eDic0_at, eCall_at, kCall_some, o1_at, isiO_at, kIsi_some, tyD_non, tyD_bl, tyD_int, tyD_str, tyD_tup, eBM_at, kbm1_some, kbm2_some, eSl_at, ks2_some, ks3_some, ks4_some, oNone_at, oSome_at, kSome_int, slO_str, sSeq_at, kSeq_nx, kSeq_rt, kSeq_bk, kSeq_ct, sNext_at, sBreak_at, sCont_at, sRetN_at, sRet_at, kRet_some, sExpr_at, kExpr_some, sSet_at, kSet_some, sIf_at, kIf_true, kIf_false, sPar2_k, kPar2_some, sPar3_k, kPar3_some, sAsg_at, kAsg_some, kAsg2_some, mName_at, mTup_2, mTup_3, mCons_at, kmCons_some, mNil_at, sPut_at, kp1_some, kp2_some, kp3_some, kp4_some, kFn_rt, kFn_nx, mkFn_0, mkFn_1, mkFn_2, mkFn_3, mkFn_4, mkFn_5, sWhile_at, List.getElem?_cons_zero, List.getElem?_cons_succ, List.set_cons_zero, List.set_cons_succ, List.replicate_succ, List.replicate_zero, Nat.reduceSub, Bool.not_true, Bool.not_false, ite_true, ite_false, if_true, if_false, reduceCtorEq, fldM_at, sFldM_at, kSF1_some, kSF2_some, kSF3_some, sFldAddM_at, kSA1_some, kSA2_int, eMake_at, kMk1_some, kMk2_some, isCM_at, isCO_non, eGet1_at, kG12_some, kG13_some, eGet2_at, kG22_some, kG23_some, eCallD_at, kCallD_some, eKdx_at, kKdx_some, kIsB_at, atI0, atI1, eq_str, ixO_tup, lenO_tup, mTup_2, List.cons.injEq, Nat.reduceEqDiff, decide_false, decide_true, and_false, and_true, false_and, true_and, Bool.or_false, Bool.or_true, Bool.true_or, Bool.false_or, Bool.and_true, Bool.and_false, Bool.false_and, Bool.true_and, Int.reduceLE, Int.reduceLT, c1, fault_is w hk hj hq, thrown_is w h hr hs]
theorem call_shut (hr : st[r]? = some (recG nm fr en at_ (.str s))) : F_called [.ref 4, th 19, .tup [th (i : Nat)]] st = F_shut_down [.ref 4, th (i : Nat)] st := by
  rw [to_shut w, given_shut (by simp) (by simp)]
  have c1 : F_is_giver [.ref 4, th (i : Nat)] st = some (.bl true, st) := giver_of w h hr (by decide)
  simp only [F_called_giver, b_called_giver, eVar_at, kVar_some, eC_at, eBin_at, k2_some, k3_some, eUn_at, k1_some, kVal_some, kBl_some, kEq_at, kBlN_some, kNe_at, kIn_at, kNotIn_at, kIx_at, ixO_tup, kLt_int, kLe_int, kGt_int, kGe_int, kLt_str, kLe_str, kGt_str, kGe_str, kIs_non, kIs_bl, kIs_int, kIs_str, kIs_tup, kIs_ref, kIsNot_non, kIsNot_bl, kIsNot_int, kIsNot_str, kIsNot_tup, kIsNot_ref, opAdd_int, opAdd_str, opSub_int, opMul_int, opDiv_int, opMod_int, opPow_int, opAnd_int, opOr_int, opNeg_int, eChain_at, kc1_some, kc2_some, kc3_true, kc3_false, kc4_some, tOf_at, kTru_some, kTru2_some, truD_non, truD_bl, truD_int, truD_tup, tAnd_at, kAnd_true, kAnd_false, tOr_at, kOr_true, kOr_false, tNot_at, kNot_some, tYes_at, eAnd_at, keAnd_some, keAnd2_true, keAnd2_false, eOr_at, keOr_some, keOr2_true, keOr2_false, eNot_at, keNot_some, keNot2_some, eIf_at, keIf_true, keIf_false, aNil_at, aCons_at, ka1_some, ka2_some, eTup_at, kTup_0, kTup_1, kTup_2, kTup_3, kTup_4, kTup_5, kTup_6, eLst_at, kLst_0, kLst_1, kLst_2, kLst_3, kLst_4, eDic0_at, eCall_at, kCall_some, o1_at, isiO_at, kIsi_some, tyD_non, tyD_bl, tyD_int, tyD_str, tyD_tup, eBM_at, kbm1_some, kbm2_some, eSl_at, ks2_some, ks3_some, ks4_some, oNone_at, oSome_at, kSome_int, slO_str, sSeq_at, kSeq_nx, kSeq_rt, kSeq_bk, kSeq_ct, sNext_at, sBreak_at, sCont_at, sRetN_at, sRet_at, kRet_some, sExpr_at, kExpr_some, sSet_at, kSet_some, sIf_at, kIf_true, kIf_false, sPar2_k, kPar2_some, sPar3_k, kPar3_some, sAsg_at, kAsg_some, kAsg2_some, mName_at, mTup_2, mTup_3, mCons_at, kmCons_some, mNil_at, sPut_at, kp1_some, kp2_some, kp3_some, kp4_some, kFn_rt, kFn_nx, mkFn_0, mkFn_1, mkFn_2, mkFn_3, mkFn_4, mkFn_5, sWhile_at, List.getElem?_cons_zero, List.getElem?_cons_succ, List.set_cons_zero, List.set_cons_succ, List.replicate_succ, List.replicate_zero, Nat.reduceSub, Bool.not_true, Bool.not_false, ite_true, ite_false, if_true, if_false, reduceCtorEq, fldM_at, sFldM_at, kSF1_some, kSF2_some, kSF3_some, sFldAddM_at, kSA1_some, kSA2_int, eMake_at, kMk1_some, kMk2_some, isCM_at, isCO_non, eGet1_at, kG12_some, kG13_some, eGet2_at, kG22_some, kG23_some, eCallD_at, kCallD_some, eKdx_at, kKdx_some, kIsB_at, atI0, atI1, eq_str, ixO_tup, lenO_tup, mTup_2, List.cons.injEq, Nat.reduceEqDiff, decide_false, decide_true, and_false, and_true, false_and, true_and, Bool.or_false, Bool.or_true, Bool.true_or, Bool.false_or, Bool.and_true, Bool.and_false, Bool.false_and, Bool.true_and, Int.reduceLE, Int.reduceLT, c1]
  cases F_shut_down [.ref 4, th (i : Nat)] st <;> rfl
end
section
variable {ths : List Nat} {st : Sto}
theorem call_count (w : Wd ths st) (x : D) : F_called [.ref 4, th 16, .tup [x]] st = F_count_giver [.ref 4, x] st := by
  rw [to_count w, given_count]
/-- what is handed in wrong -/
def L12 (g f : D) : List D := [.tup [.str [103, 111], .tup []], .tup [.str [103, 111], .tup [g, g, g]], .tup [.str [103, 111], .tup [f]], .tup [.str [116, 104, 114, 111, 119], .tup [g]], .tup [.str [116, 104, 114, 111, 119], .tup [g, g]],
  .tup [.str [116, 104, 114, 111, 119], .tup [f, f]], .tup [.str [115, 104, 117, 116], .tup []], .tup [.str [115, 104, 117, 116], .tup [g, g]], .tup [.str [115, 104, 117, 116], .tup [f]],
  .tup [.str [116, 104, 114, 111, 119], .tup [g, aNo]], .tup [.str [103, 111], .tup [.tup [.str [110, 117, 109, 98, 101, 114], .int 1], g]], .tup [.str [116, 104, 114, 111, 119], .tup [g, th 1]]]
theorem wrong_is (w : Wd ths st) {i r j q : Nat} {nm fr en at_ s : D} {k : Int} {f : D} (h : ths[i]? = some r) (hr : st[r]? = some (recG nm fr en at_ s)) (hj : ths[j]? = some q) (hq : st[q]? = some (recF k f)) :
    ∀ x ∈ L12 (th (i : Nat)) (th (j : Nat)), ∃ wd vs g, x = .tup [.str wd, .tup vs] ∧ F_known [.ref 4, .str wd] st = some (g, st) ∧ F_called [.ref 4, g, .tup vs] st = some (fK, st) := by
  have c1 : F_is_giver [.ref 4, th (i : Nat)] st = some (.bl true, st) := giver_of w h hr (by decide)
  have c2 : F_is_giver [.ref 4, th (j : Nat)] st = some (.bl false, st) := giver_of w hj hq (by decide)
  have c3 : F_is_fault [.ref 4, th (i : Nat)] st = some (.bl false, st) := fault_no w h hr (by decide) (by decide)
  have c4 : F_is_fault [.ref 4, aNo] st = some (.bl false, st) := fault_none (by decide)
  have c5 : F_is_giver [.ref 4, .tup [.str [110, 117, 109, 98, 101, 114], .int 1]] st = some (.bl false, st) := giver_no (by decide)
  have c6 : F_is_fault [.ref 4, th ((1 : Nat) : Int)] st = some (.bl false, st) := fault_no w (i := 1) (r := 12) (ths_fix w (by rfl)) (w.f (12, kd1) (List.mem_of_getElem? (i := 3) (by rfl))) (by decide) (by decide)
  have c6 : F_is_fault [.ref 4, th 1] st = some (.bl false, st) := c6
  refine memC ?_ (memC ?_ (memC ?_ (memC ?_ (memC ?_ (memC ?_ (memC ?_ (memC ?_ (memC ?_ (memC ?_ (memC ?_ (memC ?_ memN)))))))))))
  · exact ⟨_, _, _, rfl, kn_go w, by rw [to_go w, given_few tab_go (by simp)]⟩
  · exact ⟨_, _, _, rfl, kn_go w, by rw [to_go w, given_few tab_go (by simp)]⟩
  · exact ⟨_, _, _, rfl, kn_go w, by rw [to_go w, given_go (by simp) (by simp)]; simp only [F_called_giver, b_called_giver, eVar_at, kVar_some, eC_at, eBin_at, k2_some, k3_some, eUn_at, k1_some, kVal_some, kBl_some, kEq_at, kBlN_some, kNe_at, kIn_at, kNotIn_at, kIx_at, ixO_tup, kLt_int, kLe_int, kGt_int, kGe_int, kLt_str, kLe_str, kGt_str, kGe_str, kIs_non, kIs_bl, kIs_int, kIs_str, kIs_tup, kIs_ref, kIsNot_non, kIsNot_bl, kIsNot_int, kIsNot_str, kIsNot_tup, kIsNot_ref, opAdd_int, opAdd_str, opSub_int, opMul_int, opDiv_int, opMod_int, opPow_int, opAnd_int, opOr_int, opNeg_int, eChain_at, kc1_some, kc2_some, kc3_true, kc3_false, kc4_some, tOf_at, kTru_some, kTru2_some, truD_non, truD_bl, truD_int, truD_tup, tAnd_at, kAnd_true, kAnd_false, tOr_at, kOr_true, kOr_false, tNot_at, kNot_some, tYes_at, eAnd_at, keAnd_some, keAnd2_true, keAnd2_false, eOr_at, keOr_some, keOr2_true, keOr2_false, eNot_at, keNot_some, keNot2_some, eIf_at, keIf_true, keIf_false, aNil_at, aCons_at, ka1_some, ka2_some, eTup_at, kTup_0, kTup_1, kTup_2, kTup_3, kTup_4, kTup_5, kTup_6, eLst_at, kLst_0, kLst_1, kLst_2, kLst_3, kLst_4, eDic0_at, eCall_at, kCall_some, o1_at, isiO_at, kIsi_some, tyD_non, tyD_bl, tyD_int, tyD_str, tyD_tup, eBM_at, kbm1_some, kbm2_some, eSl_at, ks2_some, ks3_some, ks4_some, oNone_at, oSome_at, kSome_int, slO_str, sSeq_at, kSeq_nx, kSeq_rt, kSeq_bk, kSeq_ct, sNext_at, sBreak_at, sCont_at, sRetN_at, sRet_at, kRet_some, sExpr_at, kExpr_some, sSet_at, kSet_some, sIf_at, kIf_true, kIf_false, sPar2_k, kPar2_some, sPar3_k, kPar3_some, sAsg_at, kAsg_some, kAsg2_some, mName_at, mTup_2, mTup_3, mCons_at, kmCons_some, mNil_at, sPut_at, kp1_some, kp2_some, kp3_some, kp4_some, kFn_rt, kFn_nx, mkFn_0, mkFn_1, mkFn_2, mkFn_3, mkFn_4, mkFn_5, sWhile_at, List.getElem?_cons_zero, List.getElem?_cons_succ, List.set_cons_zero, List.set_cons_succ, List.replicate_succ, List.replicate_zero, Nat.reduceSub, Bool.not_true, Bool.not_false, ite_true, ite_false, if_true, if_false, reduceCtorEq, fldM_at, sFldM_at, kSF1_some, kSF2_some, kSF3_some, sFldAddM_at, kSA1_some, kSA2_int, eMake_at, kMk1_some, kMk2_some, isCM_at, isCO_non, eGet1_at, kG12_some, kG13_some, eGet2_at, kG22_some, kG23_some, eCallD_at, kCallD_some, eKdx_at, kKdx_some, kIsB_at, atI0, atI1, eq_str, ixO_tup, lenO_tup, mTup_2, List.cons.injEq, Nat.reduceEqDiff, decide_false, decide_true, and_false, and_true, false_and, true_and, Bool.or_false, Bool.or_true, Bool.true_or, Bool.false_or, Bool.and_true, Bool.and_false, Bool.false_and, Bool.true_and, Int.reduceLE, Int.reduceLT, c2]⟩
  · exact ⟨_, _, _, rfl, kn_throw w, by rw [to_throw w, given_few tab_throw (by simp)]⟩
  · exact ⟨_, _, _, rfl, kn_throw w, by rw [to_throw w, given_throw (by simp) (by simp)]; simp only [F_called_giver, b_called_giver, eVar_at, kVar_some, eC_at, eBin_at, k2_some, k3_some, eUn_at, k1_some, kVal_some, kBl_some, kEq_at, kBlN_some, kNe_at, kIn_at, kNotIn_at, kIx_at, ixO_tup, kLt_int, kLe_int, kGt_int, kGe_int, kLt_str, kLe_str, kGt_str, kGe_str, kIs_non, kIs_bl, kIs_int, kIs_str, kIs_tup, kIs_ref, kIsNot_non, kIsNot_bl, kIsNot_int, kIsNot_str, kIsNot_tup, kIsNot_ref, opAdd_int, opAdd_str, opSub_int, opMul_int, opDiv_int, opMod_int, opPow_int, opAnd_int, opOr_int, opNeg_int, eChain_at, kc1_some, kc2_some, kc3_true, kc3_false, kc4_some, tOf_at, kTru_some, kTru2_some, truD_non, truD_bl, truD_int, truD_tup, tAnd_at, kAnd_true, kAnd_false, tOr_at, kOr_true, kOr_false, tNot_at, kNot_some, tYes_at, eAnd_at, keAnd_some, keAnd2_true, keAnd2_false, eOr_at, keOr_some, keOr2_true, keOr2_false, eNot_at, keNot_some, keNot2_some, eIf_at, keIf_true, keIf_false, aNil_at, aCons_at, ka1_some, ka2_some, eTup_at, kTup_0, kTup_1, kTup_2, kTup_3, kTup_4, kTup_5, kTup_6, eLst_at, kLst_0, kLst_1, kLst_2, kLst_3, kLst_4, eDic0_at, eCall_at, kCall_some, o1_at, isiO_at, kIsi_some, tyD_non, tyD_bl, tyD_int, tyD_str, tyD_tup, eBM_at, kbm1_some, kbm2_some, eSl_at, ks2_some, ks3_some, ks4_some, oNone_at, oSome_at, kSome_int, slO_str, sSeq_at, kSeq_nx, kSeq_rt, kSeq_bk, kSeq_ct, sNext_at, sBreak_at, sCont_at, sRetN_at, sRet_at, kRet_some, sExpr_at, kExpr_some, sSet_at, kSet_some, sIf_at, kIf_true, kIf_false, sPar2_k, kPar2_some, sPar3_k, kPar3_some, sAsg_at, kAsg_some, kAsg2_some, mName_at, mTup_2, mTup_3, mCons_at, kmCons_some, mNil_at, sPut_at, kp1_some, kp2_some, kp3_some, kp4_some, kFn_rt, kFn_nx, mkFn_0, mkFn_1, mkFn_2, mkFn_3, mkFn_4, mkFn_5, sWhile_at, List.getElem?_cons_zero, List.getElem?_cons_succ, List.set_cons_zero, List.set_cons_succ, List.replicate_succ, List.replicate_zero, Nat.reduceSub, Bool.not_true, Bool.not_false, ite_true, ite_false, if_true, if_false, reduceCtorEq, fldM_at, sFldM_at, kSF1_some, kSF2_some, kSF3_some, sFldAddM_at, kSA1_some, kSA2_int, eMake_at, kMk1_some, kMk2_some, isCM_at, isCO_non, eGet1_at, kG12_some, kG13_some, eGet2_at, kG22_some, kG23_some, eCallD_at, kCallD_some, eKdx_at, kKdx_some, kIsB_at, atI0, atI1, eq_str, ixO_tup, lenO_tup, mTup_2, List.cons.injEq, Nat.reduceEqDiff, decide_false, decide_true, and_false, and_true, false_and, true_and, Bool.or_false, Bool.or_true, Bool.true_or, Bool.false_or, Bool.and_true, Bool.and_false, Bool.false_and, Bool.true_and, Int.reduceLE, Int.reduceLT, c1, c3]⟩
  · exact ⟨_, _, _, rfl, kn_throw w, by rw [to_throw w, given_throw (by simp) (by simp)]; simp only [F_called_giver, b_called_giver, eVar_at, kVar_some, eC_at, eBin_at, k2_some, k3_some, eUn_at, k1_some, kVal_some, kBl_some, kEq_at, kBlN_some, kNe_at, kIn_at, kNotIn_at, kIx_at, ixO_tup, kLt_int, kLe_int, kGt_int, kGe_int, kLt_str, kLe_str, kGt_str, kGe_str, kIs_non, kIs_bl, kIs_int, kIs_str, kIs_tup, kIs_ref, kIsNot_non, kIsNot_bl, kIsNot_int, kIsNot_str, kIsNot_tup, kIsNot_ref, opAdd_int, opAdd_str, opSub_int, opMul_int, opDiv_int, opMod_int, opPow_int, opAnd_int, opOr_int, opNeg_int, eChain_at, kc1_some, kc2_some, kc3_true, kc3_false, kc4_some, tOf_at, kTru_some, kTru2_some, truD_non, truD_bl, truD_int, truD_tup, tAnd_at, kAnd_true, kAnd_false, tOr_at, kOr_true, kOr_false, tNot_at, kNot_some, tYes_at, eAnd_at, keAnd_some, keAnd2_true, keAnd2_false, eOr_at, keOr_some, keOr2_true, keOr2_false, eNot_at, keNot_some, keNot2_some, eIf_at, keIf_true, keIf_false, aNil_at, aCons_at, ka1_some, ka2_some, eTup_at, kTup_0, kTup_1, kTup_2, kTup_3, kTup_4, kTup_5, kTup_6, eLst_at, kLst_0, kLst_1, kLst_2, kLst_3, kLst_4, eDic0_at, eCall_at, kCall_some, o1_at, isiO_at, kIsi_some, tyD_non, tyD_bl, tyD_int, tyD_str, tyD_tup, eBM_at, kbm1_some, kbm2_some, eSl_at, ks2_some, ks3_some, ks4_some, oNone_at, oSome_at, kSome_int, slO_str, sSeq_at, kSeq_nx, kSeq_rt, kSeq_bk, kSeq_ct, sNext_at, sBreak_at, sCont_at, sRetN_at, sRet_at, kRet_some, sExpr_at, kExpr_some, sSet_at, kSet_some, sIf_at, kIf_true, kIf_false, sPar2_k, kPar2_some, sPar3_k, kPar3_some, sAsg_at, kAsg_some, kAsg2_some, mName_at, mTup_2, mTup_3, mCons_at, kmCons_some, mNil_at, sPut_at, kp1_some, kp2_some, kp3_some, kp4_some, kFn_rt, kFn_nx, mkFn_0, mkFn_1, mkFn_2, mkFn_3, mkFn_4, mkFn_5, sWhile_at, List.getElem?_cons_zero, List.getElem?_cons_succ, List.set_cons_zero, List.set_cons_succ, List.replicate_succ, List.replicate_zero, Nat.reduceSub, Bool.not_true, Bool.not_false, ite_true, ite_false, if_true, if_false, reduceCtorEq, fldM_at, sFldM_at, kSF1_some, kSF2_some, kSF3_some, sFldAddM_at, kSA1_some, kSA2_int, eMake_at, kMk1_some, kMk2_some, isCM_at, isCO_non, eGet1_at, kG12_some, kG13_some, eGet2_at, kG22_some, kG23_some, eCallD_at, kCallD_some, eKdx_at, kKdx_some, kIsB_at, atI0, atI1, eq_str, ixO_tup, lenO_tup, mTup_2, List.cons.injEq, Nat.reduceEqDiff, decide_false, decide_true, and_false, and_true, false_and, true_and, Bool.or_false, Bool.or_true, Bool.true_or, Bool.false_or, Bool.and_true, Bool.and_false, Bool.false_and, Bool.true_and, Int.reduceLE, Int.reduceLT, c2]⟩
  · exact ⟨_, _, _, rfl, kn_shut w, by rw [to_shut w, given_few tab_shut (by simp)]⟩
  · exact ⟨_, _, _, rfl, kn_shut w, by rw [to_shut w, given_few tab_shut (by simp)]⟩
  · exact ⟨_, _, _, rfl, kn_shut w, by rw [to_shut w, given_shut (by simp) (by simp)]; simp only [F_called_giver, b_called_giver, eVar_at, kVar_some, eC_at, eBin_at, k2_some, k3_some, eUn_at, k1_some, kVal_some, kBl_some, kEq_at, kBlN_some, kNe_at, kIn_at, kNotIn_at, kIx_at, ixO_tup, kLt_int, kLe_int, kGt_int, kGe_int, kLt_str, kLe_str, kGt_str, kGe_str, kIs_non, kIs_bl, kIs_int, kIs_str, kIs_tup, kIs_ref, kIsNot_non, kIsNot_bl, kIsNot_int, kIsNot_str, kIsNot_tup, kIsNot_ref, opAdd_int, opAdd_str, opSub_int, opMul_int, opDiv_int, opMod_int, opPow_int, opAnd_int, opOr_int, opNeg_int, eChain_at, kc1_some, kc2_some, kc3_true, kc3_false, kc4_some, tOf_at, kTru_some, kTru2_some, truD_non, truD_bl, truD_int, truD_tup, tAnd_at, kAnd_true, kAnd_false, tOr_at, kOr_true, kOr_false, tNot_at, kNot_some, tYes_at, eAnd_at, keAnd_some, keAnd2_true, keAnd2_false, eOr_at, keOr_some, keOr2_true, keOr2_false, eNot_at, keNot_some, keNot2_some, eIf_at, keIf_true, keIf_false, aNil_at, aCons_at, ka1_some, ka2_some, eTup_at, kTup_0, kTup_1, kTup_2, kTup_3, kTup_4, kTup_5, kTup_6, eLst_at, kLst_0, kLst_1, kLst_2, kLst_3, kLst_4, eDic0_at, eCall_at, kCall_some, o1_at, isiO_at, kIsi_some, tyD_non, tyD_bl, tyD_int, tyD_str, tyD_tup, eBM_at, kbm1_some, kbm2_some, eSl_at, ks2_some, ks3_some, ks4_some, oNone_at, oSome_at, kSome_int, slO_str, sSeq_at, kSeq_nx, kSeq_rt, kSeq_bk, kSeq_ct, sNext_at, sBreak_at, sCont_at, sRetN_at, sRet_at, kRet_some, sExpr_at, kExpr_some, sSet_at, kSet_some, sIf_at, kIf_true, kIf_false, sPar2_k, kPar2_some, sPar3_k, kPar3_some, sAsg_at, kAsg_some, kAsg2_some, mName_at, mTup_2, mTup_3, mCons_at, kmCons_some, mNil_at, sPut_at, kp1_some, kp2_some, kp3_some, kp4_some, kFn_rt, kFn_nx, mkFn_0, mkFn_1, mkFn_2, mkFn_3, mkFn_4, mkFn_5, sWhile_at, List.getElem?_cons_zero, List.getElem?_cons_succ, List.set_cons_zero, List.set_cons_succ, List.replicate_succ, List.replicate_zero, Nat.reduceSub, Bool.not_true, Bool.not_false, ite_true, ite_false, if_true, if_false, reduceCtorEq, fldM_at, sFldM_at, kSF1_some, kSF2_some, kSF3_some, sFldAddM_at, kSA1_some, kSA2_int, eMake_at, kMk1_some, kMk2_some, isCM_at, isCO_non, eGet1_at, kG12_some, kG13_some, eGet2_at, kG22_some, kG23_some, eCallD_at, kCallD_some, eKdx_at, kKdx_some, kIsB_at, atI0, atI1, eq_str, ixO_tup, lenO_tup, mTup_2, List.cons.injEq, Nat.reduceEqDiff, decide_false, decide_true, and_false, and_true, false_and, true_and, Bool.or_false, Bool.or_true, Bool.true_or, Bool.false_or, Bool.and_true, Bool.and_false, Bool.false_and, Bool.true_and, Int.reduceLE, Int.reduceLT, c2]⟩
  · exact ⟨_, _, _, rfl, kn_throw w, by rw [to_throw w, given_throw (by simp) (by simp)]; simp only [F_called_giver, b_called_giver, eVar_at, kVar_some, eC_at, eBin_at, k2_some, k3_some, eUn_at, k1_some, kVal_some, kBl_some, kEq_at, kBlN_some, kNe_at, kIn_at, kNotIn_at, kIx_at, ixO_tup, kLt_int, kLe_int, kGt_int, kGe_int, kLt_str, kLe_str, kGt_str, kGe_str, kIs_non, kIs_bl, kIs_int, kIs_str, kIs_tup, kIs_ref, kIsNot_non, kIsNot_bl, kIsNot_int, kIsNot_str, kIsNot_tup, kIsNot_ref, opAdd_int, opAdd_str, opSub_int, opMul_int, opDiv_int, opMod_int, opPow_int, opAnd_int, opOr_int, opNeg_int, eChain_at, kc1_some, kc2_some, kc3_true, kc3_false, kc4_some, tOf_at, kTru_some, kTru2_some, truD_non, truD_bl, truD_int, truD_tup, tAnd_at, kAnd_true, kAnd_false, tOr_at, kOr_true, kOr_false, tNot_at, kNot_some, tYes_at, eAnd_at, keAnd_some, keAnd2_true, keAnd2_false, eOr_at, keOr_some, keOr2_true, keOr2_false, eNot_at, keNot_some, keNot2_some, eIf_at, keIf_true, keIf_false, aNil_at, aCons_at, ka1_some, ka2_some, eTup_at, kTup_0, kTup_1, kTup_2, kTup_3, kTup_4, kTup_5, kTup_6, eLst_at, kLst_0, kLst_1, kLst_2, kLst_3, kLst_4, eDic0_at, eCall_at, kCall_some, o1_at, isiO_at, kIsi_some, tyD_non, tyD_bl, tyD_int, tyD_str, tyD_tup, eBM_at, kbm1_some, kbm2_some, eSl_at, ks2_some, ks3_some, ks4_some, oNone_at, oSome_at, kSome_int, slO_str, sSeq_at, kSeq_nx, kSeq_rt, kSeq_bk, kSeq_ct, sNext_at, sBreak_at, sCont_at, sRetN_at, sRet_at, kRet_some, sExpr_at, kExpr_some, sSet_at, kSet_some, sIf_at, kIf_true, kIf_false, sPar2_k, kPar2_some, sPar3_k, kPar3_some, sAsg_at, kAsg_some, kAsg2_some, mName_at, mTup_2, mTup_3, mCons_at, kmCons_some, mNil_at, sPut_at, kp1_some, kp2_some, kp3_some, kp4_some, kFn_rt, kFn_nx, mkFn_0, mkFn_1, mkFn_2, mkFn_3, mkFn_4, mkFn_5, sWhile_at, List.getElem?_cons_zero, List.getElem?_cons_succ, List.set_cons_zero, List.set_cons_succ, List.replicate_succ, List.replicate_zero, Nat.reduceSub, Bool.not_true, Bool.not_false, ite_true, ite_false, if_true, if_false, reduceCtorEq, fldM_at, sFldM_at, kSF1_some, kSF2_some, kSF3_some, sFldAddM_at, kSA1_some, kSA2_int, eMake_at, kMk1_some, kMk2_some, isCM_at, isCO_non, eGet1_at, kG12_some, kG13_some, eGet2_at, kG22_some, kG23_some, eCallD_at, kCallD_some, eKdx_at, kKdx_some, kIsB_at, atI0, atI1, eq_str, ixO_tup, lenO_tup, mTup_2, List.cons.injEq, Nat.reduceEqDiff, decide_false, decide_true, and_false, and_true, false_and, true_and, Bool.or_false, Bool.or_true, Bool.true_or, Bool.false_or, Bool.and_true, Bool.and_false, Bool.false_and, Bool.true_and, Int.reduceLE, Int.reduceLT, c1, c4]⟩
  · exact ⟨_, _, _, rfl, kn_go w, by rw [to_go w, given_go (by simp) (by simp)]; simp only [F_called_giver, b_called_giver, eVar_at, kVar_some, eC_at, eBin_at, k2_some, k3_some, eUn_at, k1_some, kVal_some, kBl_some, kEq_at, kBlN_some, kNe_at, kIn_at, kNotIn_at, kIx_at, ixO_tup, kLt_int, kLe_int, kGt_int, kGe_int, kLt_str, kLe_str, kGt_str, kGe_str, kIs_non, kIs_bl, kIs_int, kIs_str, kIs_tup, kIs_ref, kIsNot_non, kIsNot_bl, kIsNot_int, kIsNot_str, kIsNot_tup, kIsNot_ref, opAdd_int, opAdd_str, opSub_int, opMul_int, opDiv_int, opMod_int, opPow_int, opAnd_int, opOr_int, opNeg_int, eChain_at, kc1_some, kc2_some, kc3_true, kc3_false, kc4_some, tOf_at, kTru_some, kTru2_some, truD_non, truD_bl, truD_int, truD_tup, tAnd_at, kAnd_true, kAnd_false, tOr_at, kOr_true, kOr_false, tNot_at, kNot_some, tYes_at, eAnd_at, keAnd_some, keAnd2_true, keAnd2_false, eOr_at, keOr_some, keOr2_true, keOr2_false, eNot_at, keNot_some, keNot2_some, eIf_at, keIf_true, keIf_false, aNil_at, aCons_at, ka1_some, ka2_some, eTup_at, kTup_0, kTup_1, kTup_2, kTup_3, kTup_4, kTup_5, kTup_6, eLst_at, kLst_0, kLst_1, kLst_2, kLst_3, kLst_4, eDic0_at, eCall_at, kCall_some, o1_at, isiO_at, kIsi_some, tyD_non, tyD_bl, tyD_int, tyD_str, tyD_tup, eBM_at, kbm1_some, kbm2_some, eSl_at, ks2_some, ks3_some, ks4_some, oNone_at, oSome_at, kSome_int, slO_str, sSeq_at, kSeq_nx, kSeq_rt, kSeq_bk, kSeq_ct, sNext_at, sBreak_at, sCont_at, sRetN_at, sRet_at, kRet_some, sExpr_at, kExpr_some, sSet_at, kSet_some, sIf_at, kIf_true, kIf_false, sPar2_k, kPar2_some, sPar3_k, kPar3_some, sAsg_at, kAsg_some, kAsg2_some, mName_at, mTup_2, mTup_3, mCons_at, kmCons_some, mNil_at, sPut_at, kp1_some, kp2_some, kp3_some, kp4_some, kFn_rt, kFn_nx, mkFn_0, mkFn_1, mkFn_2, mkFn_3, mkFn_4, mkFn_5, sWhile_at, List.getElem?_cons_zero, List.getElem?_cons_succ, List.set_cons_zero, List.set_cons_succ, List.replicate_succ, List.replicate_zero, Nat.reduceSub, Bool.not_true, Bool.not_false, ite_true, ite_false, if_true, if_false, reduceCtorEq, fldM_at, sFldM_at, kSF1_some, kSF2_some, kSF3_some, sFldAddM_at, kSA1_some, kSA2_int, eMake_at, kMk1_some, kMk2_some, isCM_at, isCO_non, eGet1_at, kG12_some, kG13_some, eGet2_at, kG22_some, kG23_some, eCallD_at, kCallD_some, eKdx_at, kKdx_some, kIsB_at, atI0, atI1, eq_str, ixO_tup, lenO_tup, mTup_2, List.cons.injEq, Nat.reduceEqDiff, decide_false, decide_true, and_false, and_true, false_and, true_and, Bool.or_false, Bool.or_true, Bool.true_or, Bool.false_or, Bool.and_true, Bool.and_false, Bool.false_and, Bool.true_and, Int.reduceLE, Int.reduceLT, c5]⟩
  · exact ⟨_, _, _, rfl, kn_throw w, by rw [to_throw w, given_throw (by simp) (by simp)]; simp only [F_called_giver, b_called_giver, eVar_at, kVar_some, eC_at, eBin_at, k2_some, k3_some, eUn_at, k1_some, kVal_some, kBl_some, kEq_at, kBlN_some, kNe_at, kIn_at, kNotIn_at, kIx_at, ixO_tup, kLt_int, kLe_int, kGt_int, kGe_int, kLt_str, kLe_str, kGt_str, kGe_str, kIs_non, kIs_bl, kIs_int, kIs_str, kIs_tup, kIs_ref, kIsNot_non, kIsNot_bl, kIsNot_int, kIsNot_str, kIsNot_tup, kIsNot_ref, opAdd_int, opAdd_str, opSub_int, opMul_int, opDiv_int, opMod_int, opPow_int, opAnd_int, opOr_int, opNeg_int, eChain_at, kc1_some, kc2_some, kc3_true, kc3_false, kc4_some, tOf_at, kTru_some, kTru2_some, truD_non, truD_bl, truD_int, truD_tup, tAnd_at, kAnd_true, kAnd_false, tOr_at, kOr_true, kOr_false, tNot_at, kNot_some, tYes_at, eAnd_at, keAnd_some, keAnd2_true, keAnd2_false, eOr_at, keOr_some, keOr2_true, keOr2_false, eNot_at, keNot_some, keNot2_some, eIf_at, keIf_true, keIf_false, aNil_at, aCons_at, ka1_some, ka2_some, eTup_at, kTup_0, kTup_1, kTup_2, kTup_3, kTup_4, kTup_5, kTup_6, eLst_at, kLst_0, kLst_1, kLst_2, kLst_3, kLst_4, eDic0_at, eCall_at, kCall_some, o1_at, isiO_at, kIsi_some, tyD_non, tyD_bl, tyD_int, tyD_str, tyD_tup, eBM_at, kbm1_some, kbm2_some, eSl_at, ks2_some, ks3_some, ks4_some, oNone_at, oSome_at, kSome_int, slO_str, sSeq_at, kSeq_nx, kSeq_rt, kSeq_bk, kSeq_ct, sNext_at, sBreak_at, sCont_at, sRetN_at, sRet_at, kRet_some, sExpr_at, kExpr_some, sSet_at, kSet_some, sIf_at, kIf_true, kIf_false, sPar2_k, kPar2_some, sPar3_k, kPar3_some, sAsg_at, kAsg_some, kAsg2_some, mName_at, mTup_2, mTup_3, mCons_at, kmCons_some, mNil_at, sPut_at, kp1_some, kp2_some, kp3_some, kp4_some, kFn_rt, kFn_nx, mkFn_0, mkFn_1, mkFn_2, mkFn_3, mkFn_4, mkFn_5, sWhile_at, List.getElem?_cons_zero, List.getElem?_cons_succ, List.set_cons_zero, List.set_cons_succ, List.replicate_succ, List.replicate_zero, Nat.reduceSub, Bool.not_true, Bool.not_false, ite_true, ite_false, if_true, if_false, reduceCtorEq, fldM_at, sFldM_at, kSF1_some, kSF2_some, kSF3_some, sFldAddM_at, kSA1_some, kSA2_int, eMake_at, kMk1_some, kMk2_some, isCM_at, isCO_non, eGet1_at, kG12_some, kG13_some, eGet2_at, kG22_some, kG23_some, eCallD_at, kCallD_some, eKdx_at, kKdx_some, kIsB_at, atI0, atI1, eq_str, ixO_tup, lenO_tup, mTup_2, List.cons.injEq, Nat.reduceEqDiff, decide_false, decide_true, and_false, and_true, false_and, true_and, Bool.or_false, Bool.or_true, Bool.true_or, Bool.false_or, Bool.and_true, Bool.and_false, Bool.false_and, Bool.true_and, Int.reduceLE, Int.reduceLT, c1, c6]⟩
end
end Math

set_option maxRecDepth 100000
set_option maxHeartbeats 4000000
namespace Math
open MP Text PySem
theorem cDv_2 (w : Int) : cDiv w 2 = true := decide_eq_true ⟨by decide, by decide +kernel⟩
theorem cMd_2 (w : Int) : cMod w 2 = true := decide_eq_true (by decide)
theorem gDv_2 (w : Int) : gDiv w 2 = w / 2 := by unfold gDiv; rw [if_pos (by decide)]
theorem gMd_2 (w : Int) : gMod w 2 = w % 2 := by unfold gMod; rw [if_pos (by decide)]
theorem cMr_2 (w : Int) : cMul w 2 = true := decide_eq_true (.inr (.inl (by decide)))
theorem cMl_2 (w : Int) : cMul 2 w = true := decide_eq_true (.inl (by decide))
theorem cDv_3 (w : Int) : cDiv w 3 = true := decide_eq_true ⟨by decide, by decide +kernel⟩
theorem cMd_3 (w : Int) : cMod w 3 = true := decide_eq_true (by decide)
theorem gDv_3 (w : Int) : gDiv w 3 = w / 3 := by unfold gDiv; rw [if_pos (by decide)]
theorem gMd_3 (w : Int) : gMod w 3 = w % 3 := by unfold gMod; rw [if_pos (by decide)]
theorem cMr_3 (w : Int) : cMul w 3 = true := decide_eq_true (.inr (.inl (by decide)))
theorem cMl_3 (w : Int) : cMul 3 w = true := decide_eq_true (.inl (by decide))
theorem cDv_4 (w : Int) : cDiv w 4 = true := decide_eq_true ⟨by decide, by decide +kernel⟩
theorem cMd_4 (w : Int) : cMod w 4 = true := decide_eq_true (by decide)
theorem gDv_4 (w : Int) : gDiv w 4 = w / 4 := by unfold gDiv; rw [if_pos (by decide)]
theorem gMd_4 (w : Int) : gMod w 4 = w % 4 := by unfold gMod; rw [if_pos (by decide)]
theorem cMr_4 (w : Int) : cMul w 4 = true := decide_eq_true (.inr (.inl (by decide)))
theorem cMl_4 (w : Int) : cMul 4 w = true := decide_eq_true (.inl (by decide))
theorem cDv_5 (w : Int) : cDiv w 5 = true := decide_eq_true ⟨by decide, by decide +kernel⟩
theorem cMd_5 (w : Int) : cMod w 5 = true := decide_eq_true (by decide)
theorem gDv_5 (w : Int) : gDiv w 5 = w / 5 := by unfold gDiv; rw [if_pos (by decide)]
theorem gMd_5 (w : Int) : gMod w 5 = w % 5 := by unfold gMod; rw [if_pos (by decide)]
theorem cMr_5 (w : Int) : cMul w 5 = true := decide_eq_true (.inr (.inl (by decide)))
theorem cMl_5 (w : Int) : cMul 5 w = true := decide_eq_true (.inl (by decide))
theorem cDv_7 (w : Int) : cDiv w 7 = true := decide_eq_true ⟨by decide, by decide +kernel⟩
theorem cMd_7 (w : Int) : cMod w 7 = true := decide_eq_true (by decide)
theorem gDv_7 (w : Int) : gDiv w 7 = w / 7 := by unfold gDiv; rw [if_pos (by decide)]
theorem gMd_7 (w : Int) : gMod w 7 = w % 7 := by unfold gMod; rw [if_pos (by decide)]
theorem cMr_7 (w : Int) : cMul w 7 = true := decide_eq_true (.inr (.inl (by decide)))
theorem cMl_7 (w : Int) : cMul 7 w = true := decide_eq_true (.inl (by decide))
theorem cDv_8 (w : Int) : cDiv w 8 = true := decide_eq_true ⟨by decide, by decide +kernel⟩
theorem cMd_8 (w : Int) : cMod w 8 = true := decide_eq_true (by decide)
theorem gDv_8 (w : Int) : gDiv w 8 = w / 8 := by unfold gDiv; rw [if_pos (by decide)]
theorem gMd_8 (w : Int) : gMod w 8 = w % 8 := by unfold gMod; rw [if_pos (by decide)]
theorem cMr_8 (w : Int) : cMul w 8 = true := decide_eq_true (.inr (.inl (by decide)))
theorem cMl_8 (w : Int) : cMul 8 w = true := decide_eq_true (.inl (by decide))
theorem cDv_9 (w : Int) : cDiv w 9 = true := decide_eq_true ⟨by decide, by decide +kernel⟩
theorem cMd_9 (w : Int) : cMod w 9 = true := decide_eq_true (by decide)
theorem gDv_9 (w : Int) : gDiv w 9 = w / 9 := by unfold gDiv; rw [if_pos (by decide)]
theorem gMd_9 (w : Int) : gMod w 9 = w % 9 := by unfold gMod; rw [if_pos (by decide)]
theorem cMr_9 (w : Int) : cMul w 9 = true := decide_eq_true (.inr (.inl (by decide)))
theorem cMl_9 (w : Int) : cMul 9 w = true := decide_eq_true (.inl (by decide))
theorem cDv_12 (w : Int) : cDiv w 12 = true := decide_eq_true ⟨by decide, by decide +kernel⟩
theorem cMd_12 (w : Int) : cMod w 12 = true := decide_eq_true (by decide)
theorem gDv_12 (w : Int) : gDiv w 12 = w / 12 := by unfold gDiv; rw [if_pos (by decide)]
theorem gMd_12 (w : Int) : gMod w 12 = w % 12 := by unfold gMod; rw [if_pos (by decide)]
theorem cMr_12 (w : Int) : cMul w 12 = true := decide_eq_true (.inr (.inl (by decide)))
theorem cMl_12 (w : Int) : cMul 12 w = true := decide_eq_true (.inl (by decide))
theorem cDv_16 (w : Int) : cDiv w 16 = true := decide_eq_true ⟨by decide, by decide +kernel⟩
theorem cMd_16 (w : Int) : cMod w 16 = true := decide_eq_true (by decide)
theorem gDv_16 (w : Int) : gDiv w 16 = w / 16 := by unfold gDiv; rw [if_pos (by decide)]
theorem gMd_16 (w : Int) : gMod w 16 = w % 16 := by unfold gMod; rw [if_pos (by decide)]
theorem cMr_16 (w : Int) : cMul w 16 = true := decide_eq_true (.inr (.inl (by decide)))
theorem cMl_16 (w : Int) : cMul 16 w = true := decide_eq_true (.inl (by decide))
theorem cDv_28 (w : Int) : cDiv w 28 = true := decide_eq_true ⟨by decide, by decide +kernel⟩
theorem cMd_28 (w : Int) : cMod w 28 = true := decide_eq_true (by decide)
theorem gDv_28 (w : Int) : gDiv w 28 = w / 28 := by unfold gDiv; rw [if_pos (by decide)]
theorem gMd_28 (w : Int) : gMod w 28 = w % 28 := by unfold gMod; rw [if_pos (by decide)]
theorem cMr_28 (w : Int) : cMul w 28 = true := decide_eq_true (.inr (.inl (by decide)))
theorem cMl_28 (w : Int) : cMul 28 w = true := decide_eq_true (.inl (by decide))
theorem cDv_140 (w : Int) : cDiv w 140 = true := decide_eq_true ⟨by decide, by decide +kernel⟩
theorem cMd_140 (w : Int) : cMod w 140 = true := decide_eq_true (by decide)
theorem gDv_140 (w : Int) : gDiv w 140 = w / 140 := by unfold gDiv; rw [if_pos (by decide)]
theorem gMd_140 (w : Int) : gMod w 140 = w % 140 := by unfold gMod; rw [if_pos (by decide)]
theorem cMr_140 (w : Int) : cMul w 140 = true := decide_eq_true (.inr (.inl (by decide)))
theorem cMl_140 (w : Int) : cMul 140 w = true := decide_eq_true (.inl (by decide))
theorem cDv_900 (w : Int) : cDiv w 900 = true := decide_eq_true ⟨by decide, by decide +kernel⟩
theorem cMd_900 (w : Int) : cMod w 900 = true := decide_eq_true (by decide)
theorem gDv_900 (w : Int) : gDiv w 900 = w / 900 := by unfold gDiv; rw [if_pos (by decide)]
theorem gMd_900 (w : Int) : gMod w 900 = w % 900 := by unfold gMod; rw [if_pos (by decide)]
theorem cMr_900 (w : Int) : cMul w 900 = true := decide_eq_true (.inr (.inl (by decide)))
theorem cMl_900 (w : Int) : cMul 900 w = true := decide_eq_true (.inl (by decide))
theorem cDv_31 (w : Int) : cDiv w 31 = true := decide_eq_true ⟨by decide, by decide +kernel⟩
theorem cMd_31 (w : Int) : cMod w 31 = true := decide_eq_true (by decide)
theorem gDv_31 (w : Int) : gDiv w 31 = w / 31 := by unfold gDiv; rw [if_pos (by decide)]
theorem gMd_31 (w : Int) : gMod w 31 = w % 31 := by unfold gMod; rw [if_pos (by decide)]
theorem cMr_31 (w : Int) : cMul w 31 = true := decide_eq_true (.inr (.inl (by decide)))
theorem cMl_31 (w : Int) : cMul 31 w = true := decide_eq_true (.inl (by decide))
theorem cDv_7919 (w : Int) : cDiv w 7919 = true := decide_eq_true ⟨by decide, by decide +kernel⟩
theorem cMd_7919 (w : Int) : cMod w 7919 = true := decide_eq_true (by decide)
theorem gDv_7919 (w : Int) : gDiv w 7919 = w / 7919 := by unfold gDiv; rw [if_pos (by decide)]
theorem gMd_7919 (w : Int) : gMod w 7919 = w % 7919 := by unfold gMod; rw [if_pos (by decide)]
theorem cMr_7919 (w : Int) : cMul w 7919 = true := decide_eq_true (.inr (.inl (by decide)))
theorem cMl_7919 (w : Int) : cMul 7919 w = true := decide_eq_true (.inl (by decide))
theorem cDv_48271 (w : Int) : cDiv w 48271 = true := decide_eq_true ⟨by decide, by decide +kernel⟩
theorem cMd_48271 (w : Int) : cMod w 48271 = true := decide_eq_true (by decide)
theorem gDv_48271 (w : Int) : gDiv w 48271 = w / 48271 := by unfold gDiv; rw [if_pos (by decide)]
theorem gMd_48271 (w : Int) : gMod w 48271 = w % 48271 := by unfold gMod; rw [if_pos (by decide)]
theorem cMr_48271 (w : Int) : cMul w 48271 = true := decide_eq_true (.inr (.inl (by decide)))
theorem cMl_48271 (w : Int) : cMul 48271 w = true := decide_eq_true (.inl (by decide))
theorem cDv_2147483647 (w : Int) : cDiv w 2147483647 = true := decide_eq_true ⟨by decide, by decide +kernel⟩
theorem cMd_2147483647 (w : Int) : cMod w 2147483647 = true := decide_eq_true (by decide)
theorem gDv_2147483647 (w : Int) : gDiv w 2147483647 = w / 2147483647 := by unfold gDiv; rw [if_pos (by decide)]
theorem gMd_2147483647 (w : Int) : gMod w 2147483647 = w % 2147483647 := by unfold gMod; rw [if_pos (by decide)]
theorem cMr_2147483647 (w : Int) : cMul w 2147483647 = true := decide_eq_true (.inr (.inl (by decide)))
theorem cMl_2147483647 (w : Int) : cMul 2147483647 w = true := decide_eq_true (.inl (by decide))
/-- plain values -/
inductive PlV : D → Prop
  | num (i : Int) : PlV (.tup [.str [110, 117, 109, 98, 101, 114], .int i])
  | txt (l : List Nat) : PlV (.tup [.str [116, 101, 120, 116], .str l])
  | tru (b : Bool) : PlV (.tup [.str [116, 114, 117, 116, 104], .bl b])
  | non : PlV aNo
def isNoP : D → Bool
  | .tup [_] => true
  | _ => false
theorem PlV.no {v : D} (h : PlV v) (st : Sto) : eqO st v aNo = some (isNoP v) := by
  have beq : ∀ l m : List Nat, l ≠ m → (mkS l == mkS m) = false := fun l m h => beq_eq_false_iff_ne.mpr fun z => h (mkS_inj z)
  cases h with
  | num i => simp [eqO, DEEP, toP, mapO, PyData.eqv, PyData.eqvAll, isNoP]
  | txt i => simp [eqO, DEEP, toP, mapO, PyData.eqv, PyData.eqvAll, isNoP]
  | tru i => simp [eqO, DEEP, toP, mapO, PyData.eqv, PyData.eqvAll, isNoP]
  | non => exact eq_no st
theorem PlV.pd {v : D} (h : PlV v) {n : Nat} : PD (n + 2) v := by
  cases h
  all_goals exact PD_tup (by simp) (by first | exact memC trivial (memC trivial memN) | exact memC trivial memN)
theorem PlV.head {v : D} (h : PlV v) : ∃ s r, v = .tup (.str s :: r) ∧ s ≠ [116, 104, 105, 110, 103] := by
  cases h
  all_goals exact ⟨_, _, rfl, by decide⟩
theorem kAt4 {a b c d : D} {st : Sto} : kLst (some ([a, b, c, d], st)) = some (.ref st.length, st ++ [.lst [a, b, c, d]]) := rfl
theorem plain_is (n : Int) (h0 : 0 ≤ n) (st : Sto) : ∃ v g, PlV v ∧ F_l_plain [.int n] st = some (v, st ++ g) := by
  have p1 : (10 : Int) ^ (9 : Int).toNat = 1000000000 := by decide
  have p2 : cPow 10 9 = true := by decide
  have p3 : ∀ w : Int, cMod w 1000000000 = true := fun w => decide_eq_true (by decide)
  have p4 : ∀ w : Int, gMod w 1000000000 = w % 1000000000 := fun w => by unfold gMod; rw [if_pos (by decide)]
  have hl : ([97, 98] : List Nat).length ≤ LIM := by decide
  have r0 : 0 ≤ n % 4 := by omega
  have r1 : n % 4 < 4 := by omega
  obtain ⟨x, hx, e⟩ := atI_in (xs := [D.tup [.str [110, 117, 109, 98, 101, 114], .int (n / 7 % 5 - 1)], .tup [.str [116, 101, 120, 116], .str (cutG [97, 98] none (some (n / 7 % 3)))], .tup [.str [116, 114, 117, 116, 104], .bl (n / 7 % 2 == 1)], aNo]) r0 (by simpa using r1)
  by_cases hc : 0 < n / 28 % 5
  · have e2 : ixO (.ref st.length) (.int (n % 4)) (st ++ [.lst [D.tup [.str [110, 117, 109, 98, 101, 114], .int (n / 7 % 5 - 1)], .tup [.str [116, 101, 120, 116], .str (cutG [97, 98] none (some (n / 7 % 3)))], .tup [.str [116, 114, 117, 116, 104], .bl (n / 7 % 2 == 1)], aNo]]) = some x := ixO_end.trans e
    refine ⟨x, [.lst [D.tup [.str [110, 117, 109, 98, 101, 114], .int (n / 7 % 5 - 1)], .tup [.str [116, 101, 120, 116], .str (cutG [97, 98] none (some (n / 7 % 3)))], .tup [.str [116, 114, 117, 116, 104], .bl (n / 7 % 2 == 1)], aNo]], ?_, ?_⟩
    · simp only [List.mem_cons, List.not_mem_nil, or_false] at hx
      rcases hx with rfl | rfl | rfl | rfl
      · exact .num _
      · exact .txt _
      · exact .tru _
      · exact .non
    · simp only [F_l_plain, b_l_plain, eVar_at, kVar_some, eC_at, eBin_at, k2_some, k3_some, eUn_at, k1_some, kVal_some, kBl_some, kEq_at, kBlN_some, kNe_at, kIn_at, kNotIn_at, kIx_at, ixO_tup, kLt_int, kLe_int, kGt_int, kGe_int, kLt_str, kLe_str, kGt_str, kGe_str, kIs_non, kIs_bl, kIs_int, kIs_str, kIs_tup, kIs_ref, kIsNot_non, kIsNot_bl, kIsNot_int, kIsNot_str, kIsNot_tup, kIsNot_ref, opAdd_int, opAdd_str, opSub_int, opMul_int, opDiv_int, opMod_int, opPow_int, opAnd_int, opOr_int, opNeg_int, eChain_at, kc1_some, kc2_some, kc3_true, kc3_false, kc4_some, tOf_at, kTru_some, kTru2_some, truD_non, truD_bl, truD_int, truD_tup, tAnd_at, kAnd_true, kAnd_false, tOr_at, kOr_true, kOr_false, tNot_at, kNot_some, tYes_at, eAnd_at, keAnd_some, keAnd2_true, keAnd2_false, eOr_at, keOr_some, keOr2_true, keOr2_false, eNot_at, keNot_some, keNot2_some, eIf_at, keIf_true, keIf_false, aNil_at, aCons_at, ka1_some, ka2_some, eTup_at, kTup_0, kTup_1, kTup_2, kTup_3, kTup_4, kTup_5, kTup_6, eLst_at, kLst_0, kLst_1, kLst_2, kLst_3, kLst_4, eDic0_at, eCall_at, kCall_some, o1_at, isiO_at, kIsi_some, tyD_non, tyD_bl, tyD_int, tyD_str, tyD_tup, eBM_at, kbm1_some, kbm2_some, eSl_at, ks2_some, ks3_some, ks4_some, oNone_at, oSome_at, kSome_int, slO_str, sSeq_at, kSeq_nx, kSeq_rt, kSeq_bk, kSeq_ct, sNext_at, sBreak_at, sCont_at, sRetN_at, sRet_at, kRet_some, sExpr_at, kExpr_some, sSet_at, kSet_some, sIf_at, kIf_true, kIf_false, sPar2_k, kPar2_some, sPar3_k, kPar3_some, sAsg_at, kAsg_some, kAsg2_some, mName_at, mTup_2, mTup_3, mCons_at, kmCons_some, mNil_at, sPut_at, kp1_some, kp2_some, kp3_some, kp4_some, kFn_rt, kFn_nx, mkFn_0, mkFn_1, mkFn_2, mkFn_3, mkFn_4, mkFn_5, sWhile_at, List.getElem?_cons_zero, List.getElem?_cons_succ, List.set_cons_zero, List.set_cons_succ, List.replicate_succ, List.replicate_zero, Nat.reduceSub, Bool.not_true, Bool.not_false, ite_true, ite_false, if_true, if_false, reduceCtorEq, fldM_at, sFldM_at, kSF1_some, kSF2_some, kSF3_some, sFldAddM_at, kSA1_some, kSA2_int, eMake_at, kMk1_some, kMk2_some, isCM_at, isCO_non, eGet1_at, kG12_some, kG13_some, eGet2_at, kG22_some, kG23_some, eCallD_at, kCallD_some, eKdx_at, kKdx_some, kIsB_at, atI0, atI1, eq_str, ixO_tup, lenO_tup, mTup_2, List.cons.injEq, Nat.reduceEqDiff, decide_false, decide_true, and_false, and_true, false_and, true_and, Bool.or_false, Bool.or_true, Bool.true_or, Bool.false_or, Bool.and_true, Bool.and_false, Bool.false_and, Bool.true_and, Int.reduceLE, Int.reduceLT, slO_str, eqO_int, hl, e2, hc, cDv_2, cMd_2, gDv_2, gMd_2, cMr_2, cMl_2, cDv_3, cMd_3, gDv_3, gMd_3, cMr_3, cMl_3, cDv_4, cMd_4, gDv_4, gMd_4, cMr_4, cMl_4, cDv_5, cMd_5, gDv_5, gMd_5, cMr_5, cMl_5, cDv_7, cMd_7, gDv_7, gMd_7, cMr_7, cMl_7, cDv_8, cMd_8, gDv_8, gMd_8, cMr_8, cMl_8, cDv_9, cMd_9, gDv_9, gMd_9, cMr_9, cMl_9, cDv_12, cMd_12, gDv_12, gMd_12, cMr_12, cMl_12, cDv_16, cMd_16, gDv_16, gMd_16, cMr_16, cMl_16, cDv_28, cMd_28, gDv_28, gMd_28, cMr_28, cMl_28, cDv_140, cMd_140, gDv_140, gMd_140, cMr_140, cMl_140, cDv_900, cMd_900, gDv_900, gMd_900, cMr_900, cMl_900, cDv_31, cMd_31, gDv_31, gMd_31, cMr_31, cMl_31, cDv_7919, cMd_7919, gDv_7919, gMd_7919, cMr_7919, cMl_7919, cDv_48271, cMd_48271, gDv_48271, gMd_48271, cMr_48271, cMl_48271, cDv_2147483647, cMd_2147483647, gDv_2147483647, gMd_2147483647, cMr_2147483647, cMl_2147483647]
  · exact ⟨_, [.lst [D.tup [.str [110, 117, 109, 98, 101, 114], .int (n / 7 % 5 - 1)], .tup [.str [116, 101, 120, 116], .str (cutG [97, 98] none (some (n / 7 % 3)))], .tup [.str [116, 114, 117, 116, 104], .bl (n / 7 % 2 == 1)], aNo]], .num (n / 140 % 1000000000), by simp only [F_l_plain, b_l_plain, eVar_at, kVar_some, eC_at, eBin_at, k2_some, k3_some, eUn_at, k1_some, kVal_some, kBl_some, kEq_at, kBlN_some, kNe_at, kIn_at, kNotIn_at, kIx_at, ixO_tup, kLt_int, kLe_int, kGt_int, kGe_int, kLt_str, kLe_str, kGt_str, kGe_str, kIs_non, kIs_bl, kIs_int, kIs_str, kIs_tup, kIs_ref, kIsNot_non, kIsNot_bl, kIsNot_int, kIsNot_str, kIsNot_tup, kIsNot_ref, opAdd_int, opAdd_str, opSub_int, opMul_int, opDiv_int, opMod_int, opPow_int, opAnd_int, opOr_int, opNeg_int, eChain_at, kc1_some, kc2_some, kc3_true, kc3_false, kc4_some, tOf_at, kTru_some, kTru2_some, truD_non, truD_bl, truD_int, truD_tup, tAnd_at, kAnd_true, kAnd_false, tOr_at, kOr_true, kOr_false, tNot_at, kNot_some, tYes_at, eAnd_at, keAnd_some, keAnd2_true, keAnd2_false, eOr_at, keOr_some, keOr2_true, keOr2_false, eNot_at, keNot_some, keNot2_some, eIf_at, keIf_true, keIf_false, aNil_at, aCons_at, ka1_some, ka2_some, eTup_at, kTup_0, kTup_1, kTup_2, kTup_3, kTup_4, kTup_5, kTup_6, eLst_at, kLst_0, kLst_1, kLst_2, kLst_3, kLst_4, eDic0_at, eCall_at, kCall_some, o1_at, isiO_at, kIsi_some, tyD_non, tyD_bl, tyD_int, tyD_str, tyD_tup, eBM_at, kbm1_some, kbm2_some, eSl_at, ks2_some, ks3_some, ks4_some, oNone_at, oSome_at, kSome_int, slO_str, sSeq_at, kSeq_nx, kSeq_rt, kSeq_bk, kSeq_ct, sNext_at, sBreak_at, sCont_at, sRetN_at, sRet_at, kRet_some, sExpr_at, kExpr_some, sSet_at, kSet_some, sIf_at, kIf_true, kIf_false, sPar2_k, kPar2_some, sPar3_k, kPar3_some, sAsg_at, kAsg_some, kAsg2_some, mName_at, mTup_2, mTup_3, mCons_at, kmCons_some, mNil_at, sPut_at, kp1_some, kp2_some, kp3_some, kp4_some, kFn_rt, kFn_nx, mkFn_0, mkFn_1, mkFn_2, mkFn_3, mkFn_4, mkFn_5, sWhile_at, List.getElem?_cons_zero, List.getElem?_cons_succ, List.set_cons_zero, List.set_cons_succ, List.replicate_succ, List.replicate_zero, Nat.reduceSub, Bool.not_true, Bool.not_false, ite_true, ite_false, if_true, if_false, reduceCtorEq, fldM_at, sFldM_at, kSF1_some, kSF2_some, kSF3_some, sFldAddM_at, kSA1_some, kSA2_int, eMake_at, kMk1_some, kMk2_some, isCM_at, isCO_non, eGet1_at, kG12_some, kG13_some, eGet2_at, kG22_some, kG23_some, eCallD_at, kCallD_some, eKdx_at, kKdx_some, kIsB_at, atI0, atI1, eq_str, ixO_tup, lenO_tup, mTup_2, List.cons.injEq, Nat.reduceEqDiff, decide_false, decide_true, and_false, and_true, false_and, true_and, Bool.or_false, Bool.or_true, Bool.true_or, Bool.false_or, Bool.and_true, Bool.and_false, Bool.false_and, Bool.true_and, Int.reduceLE, Int.reduceLT, slO_str, eqO_int, hl, hc, p1, p2, p3, p4, cDv_2, cMd_2, gDv_2, gMd_2, cMr_2, cMl_2, cDv_3, cMd_3, gDv_3, gMd_3, cMr_3, cMl_3, cDv_4, cMd_4, gDv_4, gMd_4, cMr_4, cMl_4, cDv_5, cMd_5, gDv_5, gMd_5, cMr_5, cMl_5, cDv_7, cMd_7, gDv_7, gMd_7, cMr_7, cMl_7, cDv_8, cMd_8, gDv_8, gMd_8, cMr_8, cMl_8, cDv_9, cMd_9, gDv_9, gMd_9, cMr_9, cMl_9, cDv_12, cMd_12, gDv_12, gMd_12, cMr_12, cMl_12, cDv_16, cMd_16, gDv_16, gMd_16, cMr_16, cMl_16, cDv_28, cMd_28, gDv_28, gMd_28, cMr_28, cMl_28, cDv_140, cMd_140, gDv_140, gMd_140, cMr_140, cMl_140, cDv_900, cMd_900, gDv_900, gMd_900, cMr_900, cMl_900, cDv_31, cMd_31, gDv_31, gMd_31, cMr_31, cMl_31, cDv_7919, cMd_7919, gDv_7919, gMd_7919, cMr_7919, cMl_7919, cDv_48271, cMd_48271, gDv_48271, gMd_48271, cMr_48271, cMl_48271, cDv_2147483647, cMd_2147483647, gDv_2147483647, gMd_2147483647, cMr_2147483647, cMl_2147483647]⟩
/-! the law's own dict of a giver -/
structure Gv where
  d : Nat
  r : Nat
  i : Nat
  nm : D
  fr : D
  en : D
  at_ : D
  s : List Nat
  cnt : Bool
abbrev moreC (a e : D) : List (Sum Int Str × D) := [(.inr (mkS [97, 116]), a), (.inr (mkS [101, 110, 100]), e)]
def oneL (i fr s : D) (more : List (Sum Int Str × D)) : List (Sum Int Str × D) := (.inr (mkS [103, 105, 118, 101, 114]), i) :: (.inr (mkS [102, 114, 97, 109, 101]), fr) :: (.inr (mkS [115, 116, 97, 116, 101]), s) :: more
def Gv.one (v : Gv) : List (Sum Int Str × D) := oneL (th (v.i : Nat)) v.fr (.str v.s) (if v.cnt then moreC v.at_ v.en else [])
def Gv.rc (v : Gv) : Ob := recG v.nm v.fr v.en v.at_ (.str v.s)
theorem ix_dic {st : Sto} {d : Nat} {kvs : List (Sum Int Str × D)} {k : List Nat} {x : D} (h : st[d]? = some (.dic kvs)) (hv : valD kvs (.inr (mkS k)) = some x) : ixO (.ref d) (.str k) st = some x := by
  have h1 : myD st d = some kvs := by
    unfold myD
    rw [h]
  have h2 : rdL st d = none := by
    unfold rdL
    rw [h]
  simp only [ixO, h1, h2, keyOf, hv]
theorem set_dic {st : Sto} {d : Nat} {kvs : List (Sum Int Str × D)} {k : List Nat} {x : D} (h : st[d]? = some (.dic kvs)) (hl : kvs.length < 1000) : setO (.ref d) (.str k) x st = some (st.set d (.dic (putD kvs (.inr (mkS k)) x))) := by
  have h1 : myD st d = some kvs := by
    unfold myD
    rw [h]
  have h2 : myL st d = none := by
    unfold myL
    rw [h]
  have h3 : kvs.length < LIM := by
    unfold LIM
    omega
  simp only [setO, h1, h2, keyOf, h3, if_true]
theorem one_giver (v : Gv) : valD v.one (.inr (mkS [103, 105, 118, 101, 114])) = some (th (v.i : Nat)) := rfl
theorem one_frame (v : Gv) : valD v.one (.inr (mkS [102, 114, 97, 109, 101])) = some v.fr := rfl
theorem one_state (v : Gv) : valD v.one (.inr (mkS [115, 116, 97, 116, 101])) = some (.str v.s) := rfl
theorem one_at {v : Gv} (h : v.cnt = true) : valD v.one (.inr (mkS [97, 116])) = some v.at_ := by
  unfold Gv.one
  rw [h]
  rfl
theorem one_end {v : Gv} (h : v.cnt = true) : valD v.one (.inr (mkS [101, 110, 100])) = some v.en := by
  unfold Gv.one
  rw [h]
  rfl
theorem one_len (v : Gv) : v.one.length < 1000 := by
  unfold Gv.one oneL
  cases v.cnt <;> simp
theorem put_state (v : Gv) (s : List Nat) : putD v.one (.inr (mkS [115, 116, 97, 116, 101])) (.str s) = { v with s := s }.one := by
  obtain ⟨d, r, i, nm, fr, en, at_, s0, cnt⟩ := v
  cases cnt <;> rfl
theorem put_at {v : Gv} (h : v.cnt = true) (a : D) : putD v.one (.inr (mkS [97, 116])) a = { v with at_ := a }.one := by
  obtain ⟨d, r, i, nm, fr, en, at_, s0, cnt⟩ := v
  cases h
  rfl
structure GvOk (ths : List Nat) (st : Sto) (v : Gv) : Prop where
  d : st[v.d]? = some (.dic v.one)
  r : st[v.r]? = some v.rc
  i : ths[v.i]? = some v.r
  s : St4 v.s
  c1 : v.cnt = true → v.fr = .non ∧ ∃ a e : Int, v.at_ = .int a ∧ v.en = .int e
  c0 : v.cnt = false → isNon v.fr = false
  ld : 41 ≤ v.d
  lr : 41 ≤ v.r
theorem GvOk.ne {ths : List Nat} {st : Sto} {v : Gv} (h : GvOk ths st v) : v.d ≠ v.r := fun e => by
  have h1 := h.d
  rw [e, h.r] at h1
  cases h1
def Same (v v' : Gv) : Prop := v'.d = v.d ∧ v'.r = v.r ∧ v'.i = v.i ∧ v'.fr = v.fr ∧ v'.cnt = v.cnt
/-- the giver behind a deed -/
def Res (ths : List Nat) (st : Sto) (v : Gv) (st' : Sto) : Prop := ∃ v', Wd ths st' ∧ GvOk ths st' v' ∧ Same v v' ∧ Only [v.d, v.r] st st'
theorem GvOk.grow {ths more : List Nat} {st st' : Sto} {v : Gv} {J : List Nat} (h : GvOk ths st v) (o : Only J st st') (hd : v.d ∉ J) (hr : v.r ∉ J) : GvOk (ths ++ more) st' v :=
  ⟨o _ _ hd h.d, o _ _ hr h.r, by rw [List.getElem?_append_left (List.getElem?_eq_some_iff.mp h.i).1]; exact h.i, h.s, h.c1, h.c0, h.ld, h.lr⟩
theorem Res.stay {ths : List Nat} {st : Sto} {v : Gv} (w : Wd ths st) (h : GvOk ths st v) (g : Sto) : Res ths st v (st ++ g) := by
  have h2 := h.grow (more := []) (Only.grow (J := []) (g := g)) (fun z => by cases z) (fun z => by cases z)
  rw [List.append_nil] at h2
  exact ⟨v, w.grow, h2, ⟨rfl, rfl, rfl, rfl, rfl⟩, Only.grow⟩
/-- dict and record written anew -/
theorem Res.both {ths : List Nat} {st : Sto} {v v' : Gv} (w : Wd ths st) (h : GvOk ths st v) (g : Sto) (hs : Same v v') (s4 : St4 v'.s) (c1 : v'.cnt = true → v'.fr = .non ∧ ∃ a e : Int, v'.at_ = .int a ∧ v'.en = .int e) :
    Res ths st v (((st ++ g).set v.d (.dic v'.one)).set v.r v'.rc) := by
  obtain ⟨e1, e2, e3, e4, e5⟩ := hs
  have ld : v.d < (st ++ g).length := by
    have := (List.getElem?_eq_some_iff.mp h.d).1
    rw [List.length_append]
    omega
  have lr : v.r < (st ++ g).length := by
    have := (List.getElem?_eq_some_iff.mp h.r).1
    rw [List.length_append]
    omega
  refine ⟨v', ((w.grow (g := g)).set h.ld).set h.lr, ⟨?_, ?_, ?_, s4, c1, fun z => by rw [e4]; exact h.c0 (by rw [← e5]; exact z), by rw [e1]; exact h.ld, by rw [e2]; exact h.lr⟩, ⟨e1, e2, e3, e4, e5⟩, ?_⟩
  · rw [e1, List.getElem?_set_ne (Ne.symm h.ne), List.getElem?_set_self ld]
  · rw [e2, List.getElem?_set_self (by rw [List.length_set]; exact lr)]
  · rw [e2, e3]
    exact h.i
  · exact (Only.grow.trans (Only.set (.head _))).trans (Only.set (.tail _ (.head _)))
end Math

set_option maxRecDepth 100000
set_option maxHeartbeats 4000000
namespace Math
open MP Text PySem
theorem pd_th {n : Nat} (i : Int) : PD (n + 2) (th i) := PD_tup (by simp) (memC trivial (memC trivial memN))
theorem pd_fK {n : Nat} : PD (n + 2) fK := PD_tup (by simp) (memC trivial (memC trivial memN))
theorem pd_fE {n : Nat} : PD (n + 2) fE := PD_tup (by simp) (memC trivial (memC trivial memN))
theorem pd_no {n : Nat} : PD (n + 2) aNo := PD_tup (by simp) (memC trivial memN)
theorem pd_go {v : D} (h : PlV v) (i : Int) : PD 50 (.tup [.str [103, 111], th i, v]) := PD_tup (by simp) (memC trivial (memC (pd_th (n := 47) i) (memC (h.pd (n := 47)) memN)))
theorem pd_thr (i j : Int) : PD 50 (.tup [.str [116, 104, 114, 111, 119], th i, th j]) := PD_tup (by simp) (memC trivial (memC (pd_th (n := 47) i) (memC (pd_th (n := 47) j) memN)))
theorem pd_rai (i : Int) : PD 50 (.tup [.str [114, 97, 105, 115, 101], th i]) := PD_tup (by simp) (memC trivial (memC (pd_th (n := 47) i) memN))
theorem pd_shu (i : Int) : PD 50 (.tup [.str [115, 104, 117, 116], th i]) := PD_tup (by simp) (memC trivial (memC (pd_th (n := 47) i) memN))
theorem pd_val {v : D} (h : PlV v) : PD 50 (.tup [.str [118, 97, 108, 117, 101], v]) := PD_tup (by simp) (memC trivial (memC (h.pd (n := 47)) memN))
theorem pd_ove : PD 50 (.tup [.str [111, 118, 101, 114]]) := PD_tup (by simp) (memC trivial memN)
section
variable {ths : List Nat} {st : Sto} {v : Gv}
theorem GvOk.ix_giver (h : GvOk ths st v) : ixO (.ref v.d) (.str [103, 105, 118, 101, 114]) st = some (th (v.i : Nat)) := ix_dic h.d (one_giver v)
theorem GvOk.ix_frame (h : GvOk ths st v) : ixO (.ref v.d) (.str [102, 114, 97, 109, 101]) st = some v.fr := ix_dic h.d (one_frame v)
theorem GvOk.ix_state (h : GvOk ths st v) : ixO (.ref v.d) (.str [115, 116, 97, 116, 101]) st = some (.str v.s) := ix_dic h.d (one_state v)
/-- _law_go -/
theorem lgo_is (h : GvOk ths st v) {x : D} (hx : PlV x) : F_l_go [.ref 4, .ref v.d, x, goA v.s (isNoP x) (isNon v.fr) (th (v.i : Nat)) x] st = some (.bl true, st) := by
  have e1 := h.ix_state
  have e2 := h.ix_frame
  have e3 := h.ix_giver
  have e4 := hx.no st
  have q1 : eqO st fK fK = some true := eqO_self pd_fK
  have q2 : eqO st fE fE = some true := eqO_self pd_fE
  have q3 : eqO st (.tup [.str [103, 111], th (v.i : Nat), x]) (.tup [.str [103, 111], th (v.i : Nat), x]) = some true := eqO_self (pd_go hx _)
  rcases h.s with hs | hs | hs | hs <;> rw [hs] at e1 ⊢ <;> cases hb : isNoP x <;> cases hn : isNon v.fr <;> rw [hb] at e4 <;> simp only [F_l_go, b_l_go, eVar_at, kVar_some, eC_at, eBin_at, k2_some, k3_some, eUn_at, k1_some, kVal_some, kBl_some, kEq_at, kBlN_some, kNe_at, kIn_at, kNotIn_at, kIx_at, ixO_tup, kLt_int, kLe_int, kGt_int, kGe_int, kLt_str, kLe_str, kGt_str, kGe_str, kIs_non, kIs_bl, kIs_int, kIs_str, kIs_tup, kIs_ref, kIsNot_non, kIsNot_bl, kIsNot_int, kIsNot_str, kIsNot_tup, kIsNot_ref, opAdd_int, opAdd_str, opSub_int, opMul_int, opDiv_int, opMod_int, opPow_int, opAnd_int, opOr_int, opNeg_int, eChain_at, kc1_some, kc2_some, kc3_true, kc3_false, kc4_some, tOf_at, kTru_some, kTru2_some, truD_non, truD_bl, truD_int, truD_tup, tAnd_at, kAnd_true, kAnd_false, tOr_at, kOr_true, kOr_false, tNot_at, kNot_some, tYes_at, eAnd_at, keAnd_some, keAnd2_true, keAnd2_false, eOr_at, keOr_some, keOr2_true, keOr2_false, eNot_at, keNot_some, keNot2_some, eIf_at, keIf_true, keIf_false, aNil_at, aCons_at, ka1_some, ka2_some, eTup_at, kTup_0, kTup_1, kTup_2, kTup_3, kTup_4, kTup_5, kTup_6, eLst_at, kLst_0, kLst_1, kLst_2, kLst_3, kLst_4, eDic0_at, eCall_at, kCall_some, o1_at, isiO_at, kIsi_some, tyD_non, tyD_bl, tyD_int, tyD_str, tyD_tup, eBM_at, kbm1_some, kbm2_some, eSl_at, ks2_some, ks3_some, ks4_some, oNone_at, oSome_at, kSome_int, slO_str, sSeq_at, kSeq_nx, kSeq_rt, kSeq_bk, kSeq_ct, sNext_at, sBreak_at, sCont_at, sRetN_at, sRet_at, kRet_some, sExpr_at, kExpr_some, sSet_at, kSet_some, sIf_at, kIf_true, kIf_false, sPar2_k, kPar2_some, sPar3_k, kPar3_some, sAsg_at, kAsg_some, kAsg2_some, mName_at, mTup_2, mTup_3, mCons_at, kmCons_some, mNil_at, sPut_at, kp1_some, kp2_some, kp3_some, kp4_some, kFn_rt, kFn_nx, mkFn_0, mkFn_1, mkFn_2, mkFn_3, mkFn_4, mkFn_5, sWhile_at, List.getElem?_cons_zero, List.getElem?_cons_succ, List.set_cons_zero, List.set_cons_succ, List.replicate_succ, List.replicate_zero, Nat.reduceSub, Bool.not_true, Bool.not_false, ite_true, ite_false, if_true, if_false, reduceCtorEq, fldM_at, sFldM_at, kSF1_some, kSF2_some, kSF3_some, sFldAddM_at, kSA1_some, kSA2_int, eMake_at, kMk1_some, kMk2_some, isCM_at, isCO_non, eGet1_at, kG12_some, kG13_some, eGet2_at, kG22_some, kG23_some, eCallD_at, kCallD_some, eKdx_at, kKdx_some, kIsB_at, atI0, atI1, eq_str, ixO_tup, lenO_tup, mTup_2, eqO_int, List.cons.injEq, Nat.reduceEqDiff, decide_false, decide_true, and_false, and_true, false_and, true_and, Bool.or_false, Bool.or_true, Bool.true_or, Bool.false_or, Bool.and_true, Bool.and_false, Bool.false_and, Bool.true_and, Int.reduceLE, Int.reduceLT, cDv_2, cMd_2, gDv_2, gMd_2, cDv_3, cMd_3, gDv_3, gMd_3, cDv_4, cMd_4, gDv_4, gMd_4, cDv_5, cMd_5, gDv_5, gMd_5, cDv_7, cMd_7, gDv_7, gMd_7, cDv_8, cMd_8, gDv_8, gMd_8, cDv_9, cMd_9, gDv_9, gMd_9, cDv_12, cMd_12, gDv_12, gMd_12, cDv_16, cMd_16, gDv_16, gMd_16, cDv_28, cMd_28, gDv_28, gMd_28, cDv_140, cMd_140, gDv_140, gMd_140, cDv_900, cMd_900, gDv_900, gMd_900, e1, e2, e3, e4, kIsNot_at, hn, goA, if_neg (show ¬ (sNew : List Nat) = sGoes by decide), if_neg (show ¬ (sNew : List Nat) = sOver by decide), if_neg (show ¬ (sWaits : List Nat) = sGoes by decide), if_neg (show ¬ (sWaits : List Nat) = sOver by decide), if_neg (show ¬ (sOver : List Nat) = sGoes by decide), if_neg (show ¬ (sWaits : List Nat) = sNew by decide), reduceIte, q1, q2, q3]
/-- _law_thrown -/
theorem lthrown_is (w : Wd ths st) (h : GvOk ths st v) {k : Int} (hk : FK k) {j q : Nat} {f : D} (hj : ths[j]? = some q) (hq : st[q]? = some (recF k f)) : F_l_thrown [.ref 4, .ref v.d, th (j : Nat)] st = some (.bl true, st) := by
  have e1 := h.ix_state
  have e3 := h.ix_giver
  have c := call_throw w h.i h.r h.s hk hj hq
  have q1 : eqO st fK fK = some true := eqO_self pd_fK
  have q2 : eqO st (.tup [.str [114, 97, 105, 115, 101], th (j : Nat)]) (.tup [.str [114, 97, 105, 115, 101], th (j : Nat)]) = some true := eqO_self (pd_rai _)
  have q3 : eqO st (.tup [.str [116, 104, 114, 111, 119], th (v.i : Nat), th (j : Nat)]) (.tup [.str [116, 104, 114, 111, 119], th (v.i : Nat), th (j : Nat)]) = some true := eqO_self (pd_thr _ _)
  rcases h.s with hs | hs | hs | hs <;> rw [hs] at e1 c <;> simp only [thrA, if_neg (show ¬ (sNew : List Nat) = sGoes by decide), if_neg (show ¬ (sNew : List Nat) = sOver by decide), if_neg (show ¬ (sWaits : List Nat) = sGoes by decide), if_neg (show ¬ (sWaits : List Nat) = sOver by decide), if_neg (show ¬ (sOver : List Nat) = sGoes by decide), reduceIte] at c <;> simp only [F_l_thrown, b_l_thrown, eVar_at, kVar_some, eC_at, eBin_at, k2_some, k3_some, eUn_at, k1_some, kVal_some, kBl_some, kEq_at, kBlN_some, kNe_at, kIn_at, kNotIn_at, kIx_at, ixO_tup, kLt_int, kLe_int, kGt_int, kGe_int, kLt_str, kLe_str, kGt_str, kGe_str, kIs_non, kIs_bl, kIs_int, kIs_str, kIs_tup, kIs_ref, kIsNot_non, kIsNot_bl, kIsNot_int, kIsNot_str, kIsNot_tup, kIsNot_ref, opAdd_int, opAdd_str, opSub_int, opMul_int, opDiv_int, opMod_int, opPow_int, opAnd_int, opOr_int, opNeg_int, eChain_at, kc1_some, kc2_some, kc3_true, kc3_false, kc4_some, tOf_at, kTru_some, kTru2_some, truD_non, truD_bl, truD_int, truD_tup, tAnd_at, kAnd_true, kAnd_false, tOr_at, kOr_true, kOr_false, tNot_at, kNot_some, tYes_at, eAnd_at, keAnd_some, keAnd2_true, keAnd2_false, eOr_at, keOr_some, keOr2_true, keOr2_false, eNot_at, keNot_some, keNot2_some, eIf_at, keIf_true, keIf_false, aNil_at, aCons_at, ka1_some, ka2_some, eTup_at, kTup_0, kTup_1, kTup_2, kTup_3, kTup_4, kTup_5, kTup_6, eLst_at, kLst_0, kLst_1, kLst_2, kLst_3, kLst_4, eDic0_at, eCall_at, kCall_some, o1_at, isiO_at, kIsi_some, tyD_non, tyD_bl, tyD_int, tyD_str, tyD_tup, eBM_at, kbm1_some, kbm2_some, eSl_at, ks2_some, ks3_some, ks4_some, oNone_at, oSome_at, kSome_int, slO_str, sSeq_at, kSeq_nx, kSeq_rt, kSeq_bk, kSeq_ct, sNext_at, sBreak_at, sCont_at, sRetN_at, sRet_at, kRet_some, sExpr_at, kExpr_some, sSet_at, kSet_some, sIf_at, kIf_true, kIf_false, sPar2_k, kPar2_some, sPar3_k, kPar3_some, sAsg_at, kAsg_some, kAsg2_some, mName_at, mTup_2, mTup_3, mCons_at, kmCons_some, mNil_at, sPut_at, kp1_some, kp2_some, kp3_some, kp4_some, kFn_rt, kFn_nx, mkFn_0, mkFn_1, mkFn_2, mkFn_3, mkFn_4, mkFn_5, sWhile_at, List.getElem?_cons_zero, List.getElem?_cons_succ, List.set_cons_zero, List.set_cons_succ, List.replicate_succ, List.replicate_zero, Nat.reduceSub, Bool.not_true, Bool.not_false, ite_true, ite_false, if_true, if_false, reduceCtorEq, fldM_at, sFldM_at, kSF1_some, kSF2_some, kSF3_some, sFldAddM_at, kSA1_some, kSA2_int, eMake_at, kMk1_some, kMk2_some, isCM_at, isCO_non, eGet1_at, kG12_some, kG13_some, eGet2_at, kG22_some, kG23_some, eCallD_at, kCallD_some, eKdx_at, kKdx_some, kIsB_at, atI0, atI1, eq_str, ixO_tup, lenO_tup, mTup_2, eqO_int, List.cons.injEq, Nat.reduceEqDiff, decide_false, decide_true, and_false, and_true, false_and, true_and, Bool.or_false, Bool.or_true, Bool.true_or, Bool.false_or, Bool.and_true, Bool.and_false, Bool.false_and, Bool.true_and, Int.reduceLE, Int.reduceLT, cDv_2, cMd_2, gDv_2, gMd_2, cDv_3, cMd_3, gDv_3, gMd_3, cDv_4, cMd_4, gDv_4, gMd_4, cDv_5, cMd_5, gDv_5, gMd_5, cDv_7, cMd_7, gDv_7, gMd_7, cDv_8, cMd_8, gDv_8, gMd_8, cDv_9, cMd_9, gDv_9, gMd_9, cDv_12, cMd_12, gDv_12, gMd_12, cDv_16, cMd_16, gDv_16, gMd_16, cDv_28, cMd_28, gDv_28, gMd_28, cDv_140, cMd_140, gDv_140, gMd_140, cDv_900, cMd_900, gDv_900, gMd_900, kn_throw w, e1, e3, c, q1, q2, q3]
/-- _law_shut -/
theorem lshut_is (w : Wd ths st) (h : GvOk ths st v) : ∃ st', F_l_shut [.ref 4, .ref v.d] st = some (.bl true, st') ∧ Res ths st v st' := by
  have e1 := h.ix_state
  have e3 := h.ix_giver
  have c := call_shut w h.i h.r
  have q1 : eqO st fK fK = some true := eqO_self pd_fK
  have q2 : eqO st (.tup [.str [115, 104, 117, 116], th (v.i : Nat)]) (.tup [.str [115, 104, 117, 116], th (v.i : Nat)]) = some true := eqO_self (pd_shu _)
  by_cases h1 : v.s = sGoes
  · have hr : st[v.r]? = some (recG v.nm v.fr v.en v.at_ (.str sGoes)) := by rw [← h1]; exact h.r
    rw [h1] at e1
    refine ⟨st, ?_, by have := Res.stay w h []; rwa [List.append_nil] at this⟩
    simp only [F_l_shut, b_l_shut, eVar_at, kVar_some, eC_at, eBin_at, k2_some, k3_some, eUn_at, k1_some, kVal_some, kBl_some, kEq_at, kBlN_some, kNe_at, kIn_at, kNotIn_at, kIx_at, ixO_tup, kLt_int, kLe_int, kGt_int, kGe_int, kLt_str, kLe_str, kGt_str, kGe_str, kIs_non, kIs_bl, kIs_int, kIs_str, kIs_tup, kIs_ref, kIsNot_non, kIsNot_bl, kIsNot_int, kIsNot_str, kIsNot_tup, kIsNot_ref, opAdd_int, opAdd_str, opSub_int, opMul_int, opDiv_int, opMod_int, opPow_int, opAnd_int, opOr_int, opNeg_int, eChain_at, kc1_some, kc2_some, kc3_true, kc3_false, kc4_some, tOf_at, kTru_some, kTru2_some, truD_non, truD_bl, truD_int, truD_tup, tAnd_at, kAnd_true, kAnd_false, tOr_at, kOr_true, kOr_false, tNot_at, kNot_some, tYes_at, eAnd_at, keAnd_some, keAnd2_true, keAnd2_false, eOr_at, keOr_some, keOr2_true, keOr2_false, eNot_at, keNot_some, keNot2_some, eIf_at, keIf_true, keIf_false, aNil_at, aCons_at, ka1_some, ka2_some, eTup_at, kTup_0, kTup_1, kTup_2, kTup_3, kTup_4, kTup_5, kTup_6, eLst_at, kLst_0, kLst_1, kLst_2, kLst_3, kLst_4, eDic0_at, eCall_at, kCall_some, o1_at, isiO_at, kIsi_some, tyD_non, tyD_bl, tyD_int, tyD_str, tyD_tup, eBM_at, kbm1_some, kbm2_some, eSl_at, ks2_some, ks3_some, ks4_some, oNone_at, oSome_at, kSome_int, slO_str, sSeq_at, kSeq_nx, kSeq_rt, kSeq_bk, kSeq_ct, sNext_at, sBreak_at, sCont_at, sRetN_at, sRet_at, kRet_some, sExpr_at, kExpr_some, sSet_at, kSet_some, sIf_at, kIf_true, kIf_false, sPar2_k, kPar2_some, sPar3_k, kPar3_some, sAsg_at, kAsg_some, kAsg2_some, mName_at, mTup_2, mTup_3, mCons_at, kmCons_some, mNil_at, sPut_at, kp1_some, kp2_some, kp3_some, kp4_some, kFn_rt, kFn_nx, mkFn_0, mkFn_1, mkFn_2, mkFn_3, mkFn_4, mkFn_5, sWhile_at, List.getElem?_cons_zero, List.getElem?_cons_succ, List.set_cons_zero, List.set_cons_succ, List.replicate_succ, List.replicate_zero, Nat.reduceSub, Bool.not_true, Bool.not_false, ite_true, ite_false, if_true, if_false, reduceCtorEq, fldM_at, sFldM_at, kSF1_some, kSF2_some, kSF3_some, sFldAddM_at, kSA1_some, kSA2_int, eMake_at, kMk1_some, kMk2_some, isCM_at, isCO_non, eGet1_at, kG12_some, kG13_some, eGet2_at, kG22_some, kG23_some, eCallD_at, kCallD_some, eKdx_at, kKdx_some, kIsB_at, atI0, atI1, eq_str, ixO_tup, lenO_tup, mTup_2, eqO_int, List.cons.injEq, Nat.reduceEqDiff, decide_false, decide_true, and_false, and_true, false_and, true_and, Bool.or_false, Bool.or_true, Bool.true_or, Bool.false_or, Bool.and_true, Bool.and_false, Bool.false_and, Bool.true_and, Int.reduceLE, Int.reduceLT, cDv_2, cMd_2, gDv_2, gMd_2, cDv_3, cMd_3, gDv_3, gMd_3, cDv_4, cMd_4, gDv_4, gMd_4, cDv_5, cMd_5, gDv_5, gMd_5, cDv_7, cMd_7, gDv_7, gMd_7, cDv_8, cMd_8, gDv_8, gMd_8, cDv_9, cMd_9, gDv_9, gMd_9, cDv_12, cMd_12, gDv_12, gMd_12, cDv_16, cMd_16, gDv_16, gMd_16, cDv_28, cMd_28, gDv_28, gMd_28, cDv_140, cMd_140, gDv_140, gMd_140, cDv_900, cMd_900, gDv_900, gMd_900, kn_shut w, e1, e3, c, shut_goes w h.i hr, q1]
  · by_cases h2 : v.s = sWaits
    · have hr : st[v.r]? = some (recG v.nm v.fr v.en v.at_ (.str sWaits)) := by rw [← h2]; exact h.r
      rw [h2] at e1
      refine ⟨st, ?_, by have := Res.stay w h []; rwa [List.append_nil] at this⟩
      simp only [F_l_shut, b_l_shut, eVar_at, kVar_some, eC_at, eBin_at, k2_some, k3_some, eUn_at, k1_some, kVal_some, kBl_some, kEq_at, kBlN_some, kNe_at, kIn_at, kNotIn_at, kIx_at, ixO_tup, kLt_int, kLe_int, kGt_int, kGe_int, kLt_str, kLe_str, kGt_str, kGe_str, kIs_non, kIs_bl, kIs_int, kIs_str, kIs_tup, kIs_ref, kIsNot_non, kIsNot_bl, kIsNot_int, kIsNot_str, kIsNot_tup, kIsNot_ref, opAdd_int, opAdd_str, opSub_int, opMul_int, opDiv_int, opMod_int, opPow_int, opAnd_int, opOr_int, opNeg_int, eChain_at, kc1_some, kc2_some, kc3_true, kc3_false, kc4_some, tOf_at, kTru_some, kTru2_some, truD_non, truD_bl, truD_int, truD_tup, tAnd_at, kAnd_true, kAnd_false, tOr_at, kOr_true, kOr_false, tNot_at, kNot_some, tYes_at, eAnd_at, keAnd_some, keAnd2_true, keAnd2_false, eOr_at, keOr_some, keOr2_true, keOr2_false, eNot_at, keNot_some, keNot2_some, eIf_at, keIf_true, keIf_false, aNil_at, aCons_at, ka1_some, ka2_some, eTup_at, kTup_0, kTup_1, kTup_2, kTup_3, kTup_4, kTup_5, kTup_6, eLst_at, kLst_0, kLst_1, kLst_2, kLst_3, kLst_4, eDic0_at, eCall_at, kCall_some, o1_at, isiO_at, kIsi_some, tyD_non, tyD_bl, tyD_int, tyD_str, tyD_tup, eBM_at, kbm1_some, kbm2_some, eSl_at, ks2_some, ks3_some, ks4_some, oNone_at, oSome_at, kSome_int, slO_str, sSeq_at, kSeq_nx, kSeq_rt, kSeq_bk, kSeq_ct, sNext_at, sBreak_at, sCont_at, sRetN_at, sRet_at, kRet_some, sExpr_at, kExpr_some, sSet_at, kSet_some, sIf_at, kIf_true, kIf_false, sPar2_k, kPar2_some, sPar3_k, kPar3_some, sAsg_at, kAsg_some, kAsg2_some, mName_at, mTup_2, mTup_3, mCons_at, kmCons_some, mNil_at, sPut_at, kp1_some, kp2_some, kp3_some, kp4_some, kFn_rt, kFn_nx, mkFn_0, mkFn_1, mkFn_2, mkFn_3, mkFn_4, mkFn_5, sWhile_at, List.getElem?_cons_zero, List.getElem?_cons_succ, List.set_cons_zero, List.set_cons_succ, List.replicate_succ, List.replicate_zero, Nat.reduceSub, Bool.not_true, Bool.not_false, ite_true, ite_false, if_true, if_false, reduceCtorEq, fldM_at, sFldM_at, kSF1_some, kSF2_some, kSF3_some, sFldAddM_at, kSA1_some, kSA2_int, eMake_at, kMk1_some, kMk2_some, isCM_at, isCO_non, eGet1_at, kG12_some, kG13_some, eGet2_at, kG22_some, kG23_some, eCallD_at, kCallD_some, eKdx_at, kKdx_some, kIsB_at, atI0, atI1, eq_str, ixO_tup, lenO_tup, mTup_2, eqO_int, List.cons.injEq, Nat.reduceEqDiff, decide_false, decide_true, and_false, and_true, false_and, true_and, Bool.or_false, Bool.or_true, Bool.true_or, Bool.false_or, Bool.and_true, Bool.and_false, Bool.false_and, Bool.true_and, Int.reduceLE, Int.reduceLT, cDv_2, cMd_2, gDv_2, gMd_2, cDv_3, cMd_3, gDv_3, gMd_3, cDv_4, cMd_4, gDv_4, gMd_4, cDv_5, cMd_5, gDv_5, gMd_5, cDv_7, cMd_7, gDv_7, gMd_7, cDv_8, cMd_8, gDv_8, gMd_8, cDv_9, cMd_9, gDv_9, gMd_9, cDv_12, cMd_12, gDv_12, gMd_12, cDv_16, cMd_16, gDv_16, gMd_16, cDv_28, cMd_28, gDv_28, gMd_28, cDv_140, cMd_140, gDv_140, gMd_140, cDv_900, cMd_900, gDv_900, gMd_900, kn_shut w, e1, e3, c, shut_waits w h.i hr, q2]
    · have c2 := shut_else w h.i h.r h1 h2
      have hd2 : (st.set v.r (recG v.nm v.fr v.en v.at_ (.str sOver)))[v.d]? = some (.dic v.one) := by
        rw [List.getElem?_set_ne (Ne.symm h.ne)]
        exact h.d
      have e4 : ixO (.ref v.d) (.str [115, 116, 97, 116, 101]) (st.set v.r (recG v.nm v.fr v.en v.at_ (.str sOver))) = some (.str v.s) := ix_dic hd2 (one_state v)
      have e5 := set_dic (k := [115, 116, 97, 116, 101]) (x := .str sOver) hd2 (one_len v)
      rw [put_state, List.set_comm _ _ (Ne.symm h.ne)] at e5
      have R := Res.both (v' := { v with s := sOver }) w h [] ⟨rfl, rfl, rfl, rfl, rfl⟩ (.inr (.inr (.inr rfl))) h.c1
      rw [List.append_nil] at R
      have q3 : ∀ s : Sto, eqO s (.tup [.str [118, 97, 108, 117, 101], aNo]) (.tup [.str [118, 97, 108, 117, 101], aNo]) = some true := fun s => eqO_self (pd_val .non)
      refine ⟨_, ?_, R⟩
      simp only [F_l_shut, b_l_shut, eVar_at, kVar_some, eC_at, eBin_at, k2_some, k3_some, eUn_at, k1_some, kVal_some, kBl_some, kEq_at, kBlN_some, kNe_at, kIn_at, kNotIn_at, kIx_at, ixO_tup, kLt_int, kLe_int, kGt_int, kGe_int, kLt_str, kLe_str, kGt_str, kGe_str, kIs_non, kIs_bl, kIs_int, kIs_str, kIs_tup, kIs_ref, kIsNot_non, kIsNot_bl, kIsNot_int, kIsNot_str, kIsNot_tup, kIsNot_ref, opAdd_int, opAdd_str, opSub_int, opMul_int, opDiv_int, opMod_int, opPow_int, opAnd_int, opOr_int, opNeg_int, eChain_at, kc1_some, kc2_some, kc3_true, kc3_false, kc4_some, tOf_at, kTru_some, kTru2_some, truD_non, truD_bl, truD_int, truD_tup, tAnd_at, kAnd_true, kAnd_false, tOr_at, kOr_true, kOr_false, tNot_at, kNot_some, tYes_at, eAnd_at, keAnd_some, keAnd2_true, keAnd2_false, eOr_at, keOr_some, keOr2_true, keOr2_false, eNot_at, keNot_some, keNot2_some, eIf_at, keIf_true, keIf_false, aNil_at, aCons_at, ka1_some, ka2_some, eTup_at, kTup_0, kTup_1, kTup_2, kTup_3, kTup_4, kTup_5, kTup_6, eLst_at, kLst_0, kLst_1, kLst_2, kLst_3, kLst_4, eDic0_at, eCall_at, kCall_some, o1_at, isiO_at, kIsi_some, tyD_non, tyD_bl, tyD_int, tyD_str, tyD_tup, eBM_at, kbm1_some, kbm2_some, eSl_at, ks2_some, ks3_some, ks4_some, oNone_at, oSome_at, kSome_int, slO_str, sSeq_at, kSeq_nx, kSeq_rt, kSeq_bk, kSeq_ct, sNext_at, sBreak_at, sCont_at, sRetN_at, sRet_at, kRet_some, sExpr_at, kExpr_some, sSet_at, kSet_some, sIf_at, kIf_true, kIf_false, sPar2_k, kPar2_some, sPar3_k, kPar3_some, sAsg_at, kAsg_some, kAsg2_some, mName_at, mTup_2, mTup_3, mCons_at, kmCons_some, mNil_at, sPut_at, kp1_some, kp2_some, kp3_some, kp4_some, kFn_rt, kFn_nx, mkFn_0, mkFn_1, mkFn_2, mkFn_3, mkFn_4, mkFn_5, sWhile_at, List.getElem?_cons_zero, List.getElem?_cons_succ, List.set_cons_zero, List.set_cons_succ, List.replicate_succ, List.replicate_zero, Nat.reduceSub, Bool.not_true, Bool.not_false, ite_true, ite_false, if_true, if_false, reduceCtorEq, fldM_at, sFldM_at, kSF1_some, kSF2_some, kSF3_some, sFldAddM_at, kSA1_some, kSA2_int, eMake_at, kMk1_some, kMk2_some, isCM_at, isCO_non, eGet1_at, kG12_some, kG13_some, eGet2_at, kG22_some, kG23_some, eCallD_at, kCallD_some, eKdx_at, kKdx_some, kIsB_at, atI0, atI1, eq_str, ixO_tup, lenO_tup, mTup_2, eqO_int, List.cons.injEq, Nat.reduceEqDiff, decide_false, decide_true, and_false, and_true, false_and, true_and, Bool.or_false, Bool.or_true, Bool.true_or, Bool.false_or, Bool.and_true, Bool.and_false, Bool.false_and, Bool.true_and, Int.reduceLE, Int.reduceLT, cDv_2, cMd_2, gDv_2, gMd_2, cDv_3, cMd_3, gDv_3, gMd_3, cDv_4, cMd_4, gDv_4, gMd_4, cDv_5, cMd_5, gDv_5, gMd_5, cDv_7, cMd_7, gDv_7, gMd_7, cDv_8, cMd_8, gDv_8, gMd_8, cDv_9, cMd_9, gDv_9, gMd_9, cDv_12, cMd_12, gDv_12, gMd_12, cDv_16, cMd_16, gDv_16, gMd_16, cDv_28, cMd_28, gDv_28, gMd_28, cDv_140, cMd_140, gDv_140, gMd_140, cDv_900, cMd_900, gDv_900, gMd_900, kn_shut w, e3, e4, e5, c, c2, h1, h2, q3]
      rfl
end
end Math

set_option maxRecDepth 100000
set_option maxHeartbeats 4000000
namespace Math
open MP Text PySem
section
variable {ths : List Nat} {st : Sto} {v : Gv}
/-- _law_counted -/
theorem lcounted_is (w : Wd ths st) (h : GvOk ths st v) (hc : v.cnt = true) : ∃ st', F_l_counted [.ref 4, .ref v.d] st = some (.bl true, st') ∧ Res ths st v st' := by
  have e3 := h.ix_giver
  obtain ⟨hf, a, e, ha, he⟩ := h.c1 hc
  have hr : st[v.r]? = some (recG v.nm v.fr (.int e) (.int a) (.str v.s)) := by rw [← ha, ← he]; exact h.r
  have dd : ∀ o : Ob, (st.set v.r o)[v.d]? = some (.dic v.one) := fun o => by
    rw [List.getElem?_set_ne (Ne.symm h.ne)]
    exact h.d
  have oa := one_at hc
  have oe := one_end hc
  rw [ha] at oa
  rw [he] at oe
  by_cases hl : e ≤ a
  · have c := counted_over w h.i hr hl
    have e4 := ix_dic (dd (recG v.nm v.fr (.int e) (.int a) (.str sOver))) oa
    have e5 := ix_dic (dd (recG v.nm v.fr (.int e) (.int a) (.str sOver))) oe
    have e6 := set_dic (k := [115, 116, 97, 116, 101]) (x := .str sOver) (dd (recG v.nm v.fr (.int e) (.int a) (.str sOver))) (one_len v)
    rw [put_state, List.set_comm _ _ (Ne.symm h.ne)] at e6
    have R := Res.both (v' := { v with s := sOver }) w h [] ⟨rfl, rfl, rfl, rfl, rfl⟩ (.inr (.inr (.inr rfl))) h.c1
    rw [List.append_nil] at R
    have q3 : ∀ s : Sto, eqO s (.tup [.str [111, 118, 101, 114]]) (.tup [.str [111, 118, 101, 114]]) = some true := fun s => eqO_self pd_ove
    have k : ({ v with s := sOver } : Gv).rc = recG v.nm v.fr (.int e) (.int a) (.str sOver) := by
      show recG v.nm v.fr v.en v.at_ (.str sOver) = _
      rw [ha, he]
    rw [k] at R
    exact ⟨_, by simp only [F_l_counted, b_l_counted, eVar_at, kVar_some, eC_at, eBin_at, k2_some, k3_some, eUn_at, k1_some, kVal_some, kBl_some, kEq_at, kBlN_some, kNe_at, kIn_at, kNotIn_at, kIx_at, ixO_tup, kLt_int, kLe_int, kGt_int, kGe_int, kLt_str, kLe_str, kGt_str, kGe_str, kIs_non, kIs_bl, kIs_int, kIs_str, kIs_tup, kIs_ref, kIsNot_non, kIsNot_bl, kIsNot_int, kIsNot_str, kIsNot_tup, kIsNot_ref, opAdd_int, opAdd_str, opSub_int, opMul_int, opDiv_int, opMod_int, opPow_int, opAnd_int, opOr_int, opNeg_int, eChain_at, kc1_some, kc2_some, kc3_true, kc3_false, kc4_some, tOf_at, kTru_some, kTru2_some, truD_non, truD_bl, truD_int, truD_tup, tAnd_at, kAnd_true, kAnd_false, tOr_at, kOr_true, kOr_false, tNot_at, kNot_some, tYes_at, eAnd_at, keAnd_some, keAnd2_true, keAnd2_false, eOr_at, keOr_some, keOr2_true, keOr2_false, eNot_at, keNot_some, keNot2_some, eIf_at, keIf_true, keIf_false, aNil_at, aCons_at, ka1_some, ka2_some, eTup_at, kTup_0, kTup_1, kTup_2, kTup_3, kTup_4, kTup_5, kTup_6, eLst_at, kLst_0, kLst_1, kLst_2, kLst_3, kLst_4, eDic0_at, eCall_at, kCall_some, o1_at, isiO_at, kIsi_some, tyD_non, tyD_bl, tyD_int, tyD_str, tyD_tup, eBM_at, kbm1_some, kbm2_some, eSl_at, ks2_some, ks3_some, ks4_some, oNone_at, oSome_at, kSome_int, slO_str, sSeq_at, kSeq_nx, kSeq_rt, kSeq_bk, kSeq_ct, sNext_at, sBreak_at, sCont_at, sRetN_at, sRet_at, kRet_some, sExpr_at, kExpr_some, sSet_at, kSet_some, sIf_at, kIf_true, kIf_false, sPar2_k, kPar2_some, sPar3_k, kPar3_some, sAsg_at, kAsg_some, kAsg2_some, mName_at, mTup_2, mTup_3, mCons_at, kmCons_some, mNil_at, sPut_at, kp1_some, kp2_some, kp3_some, kp4_some, kFn_rt, kFn_nx, mkFn_0, mkFn_1, mkFn_2, mkFn_3, mkFn_4, mkFn_5, sWhile_at, List.getElem?_cons_zero, List.getElem?_cons_succ, List.set_cons_zero, List.set_cons_succ, List.replicate_succ, List.replicate_zero, Nat.reduceSub, Bool.not_true, Bool.not_false, ite_true, ite_false, if_true, if_false, reduceCtorEq, fldM_at, sFldM_at, kSF1_some, kSF2_some, kSF3_some, sFldAddM_at, kSA1_some, kSA2_int, eMake_at, kMk1_some, kMk2_some, isCM_at, isCO_non, eGet1_at, kG12_some, kG13_some, eGet2_at, kG22_some, kG23_some, eCallD_at, kCallD_some, eKdx_at, kKdx_some, kIsB_at, atI0, atI1, eq_str, ixO_tup, lenO_tup, mTup_2, eqO_int, List.cons.injEq, Nat.reduceEqDiff, decide_false, decide_true, and_false, and_true, false_and, true_and, Bool.or_false, Bool.or_true, Bool.true_or, Bool.false_or, Bool.and_true, Bool.and_false, Bool.false_and, Bool.true_and, Int.reduceLE, Int.reduceLT, cDv_2, cMd_2, gDv_2, gMd_2, cDv_3, cMd_3, gDv_3, gMd_3, cDv_4, cMd_4, gDv_4, gMd_4, cDv_5, cMd_5, gDv_5, gMd_5, cDv_7, cMd_7, gDv_7, gMd_7, cDv_8, cMd_8, gDv_8, gMd_8, cDv_9, cMd_9, gDv_9, gMd_9, cDv_12, cMd_12, gDv_12, gMd_12, cDv_16, cMd_16, gDv_16, gMd_16, cDv_28, cMd_28, gDv_28, gMd_28, cDv_140, cMd_140, gDv_140, gMd_140, cDv_900, cMd_900, gDv_900, gMd_900, e3, e4, e5, e6, c, hl, q3], R⟩
  · have c := counted_on w h.i hr hl
    have e4 := ix_dic (dd (recG v.nm v.fr (.int e) (.int (a + 1)) (.str sWaits))) oa
    have e5 := ix_dic (dd (recG v.nm v.fr (.int e) (.int (a + 1)) (.str sWaits))) oe
    have e6 := set_dic (k := [97, 116]) (x := .int (a + 1)) (dd (recG v.nm v.fr (.int e) (.int (a + 1)) (.str sWaits))) (one_len v)
    rw [put_at hc] at e6
    have ld : v.d < (st.set v.r (recG v.nm v.fr (.int e) (.int (a + 1)) (.str sWaits))).length := (List.getElem?_eq_some_iff.mp (dd _)).1
    have dd2 : ((st.set v.r (recG v.nm v.fr (.int e) (.int (a + 1)) (.str sWaits))).set v.d (.dic ({ v with at_ := .int (a + 1) } : Gv).one))[v.d]? = some (.dic ({ v with at_ := .int (a + 1) } : Gv).one) := List.getElem?_set_self ld
    have e7 := set_dic (k := [115, 116, 97, 116, 101]) (x := .str sWaits) dd2 (one_len _)
    rw [put_state, List.set_set] at e7
    have ld2 : v.d < ((st.set v.r (recG v.nm v.fr (.int e) (.int (a + 1)) (.str sWaits))).set v.d (.dic ({ v with at_ := .int (a + 1) } : Gv).one)).length := by rw [List.length_set]; exact ld
    have e8 : ixO (.ref v.d) (.str [97, 116]) ((st.set v.r (recG v.nm v.fr (.int e) (.int (a + 1)) (.str sWaits))).set v.d (.dic ({ v with at_ := .int (a + 1), s := sWaits } : Gv).one)) = some (.int (a + 1)) :=
      ix_dic (List.getElem?_set_self ld) (one_at (v := { v with at_ := .int (a + 1), s := sWaits }) hc)
    have R := Res.both (v' := { v with at_ := .int (a + 1), s := sWaits }) w h [] ⟨rfl, rfl, rfl, rfl, rfl⟩ (.inr (.inr (.inl rfl))) (fun _ => ⟨hf, a + 1, e, rfl, he⟩)
    rw [List.append_nil] at R
    have q3 : ∀ s : Sto, eqO s (.tup [.str [118, 97, 108, 117, 101], .tup [.str [110, 117, 109, 98, 101, 114], .int a]]) (.tup [.str [118, 97, 108, 117, 101], .tup [.str [110, 117, 109, 98, 101, 114], .int a]]) = some true := fun s => eqO_self (pd_val (.num a))
    have k : ({ v with at_ := .int (a + 1), s := sWaits } : Gv).rc = recG v.nm v.fr (.int e) (.int (a + 1)) (.str sWaits) := by
      show recG v.nm v.fr v.en (.int (a + 1)) (.str sWaits) = _
      rw [he]
    rw [k, List.set_comm _ _ h.ne] at R
    have e9 : a + 1 - 1 = a := by omega
    exact ⟨_, by simp only [F_l_counted, b_l_counted, eVar_at, kVar_some, eC_at, eBin_at, k2_some, k3_some, eUn_at, k1_some, kVal_some, kBl_some, kEq_at, kBlN_some, kNe_at, kIn_at, kNotIn_at, kIx_at, ixO_tup, kLt_int, kLe_int, kGt_int, kGe_int, kLt_str, kLe_str, kGt_str, kGe_str, kIs_non, kIs_bl, kIs_int, kIs_str, kIs_tup, kIs_ref, kIsNot_non, kIsNot_bl, kIsNot_int, kIsNot_str, kIsNot_tup, kIsNot_ref, opAdd_int, opAdd_str, opSub_int, opMul_int, opDiv_int, opMod_int, opPow_int, opAnd_int, opOr_int, opNeg_int, eChain_at, kc1_some, kc2_some, kc3_true, kc3_false, kc4_some, tOf_at, kTru_some, kTru2_some, truD_non, truD_bl, truD_int, truD_tup, tAnd_at, kAnd_true, kAnd_false, tOr_at, kOr_true, kOr_false, tNot_at, kNot_some, tYes_at, eAnd_at, keAnd_some, keAnd2_true, keAnd2_false, eOr_at, keOr_some, keOr2_true, keOr2_false, eNot_at, keNot_some, keNot2_some, eIf_at, keIf_true, keIf_false, aNil_at, aCons_at, ka1_some, ka2_some, eTup_at, kTup_0, kTup_1, kTup_2, kTup_3, kTup_4, kTup_5, kTup_6, eLst_at, kLst_0, kLst_1, kLst_2, kLst_3, kLst_4, eDic0_at, eCall_at, kCall_some, o1_at, isiO_at, kIsi_some, tyD_non, tyD_bl, tyD_int, tyD_str, tyD_tup, eBM_at, kbm1_some, kbm2_some, eSl_at, ks2_some, ks3_some, ks4_some, oNone_at, oSome_at, kSome_int, slO_str, sSeq_at, kSeq_nx, kSeq_rt, kSeq_bk, kSeq_ct, sNext_at, sBreak_at, sCont_at, sRetN_at, sRet_at, kRet_some, sExpr_at, kExpr_some, sSet_at, kSet_some, sIf_at, kIf_true, kIf_false, sPar2_k, kPar2_some, sPar3_k, kPar3_some, sAsg_at, kAsg_some, kAsg2_some, mName_at, mTup_2, mTup_3, mCons_at, kmCons_some, mNil_at, sPut_at, kp1_some, kp2_some, kp3_some, kp4_some, kFn_rt, kFn_nx, mkFn_0, mkFn_1, mkFn_2, mkFn_3, mkFn_4, mkFn_5, sWhile_at, List.getElem?_cons_zero, List.getElem?_cons_succ, List.set_cons_zero, List.set_cons_succ, List.replicate_succ, List.replicate_zero, Nat.reduceSub, Bool.not_true, Bool.not_false, ite_true, ite_false, if_true, if_false, reduceCtorEq, fldM_at, sFldM_at, kSF1_some, kSF2_some, kSF3_some, sFldAddM_at, kSA1_some, kSA2_int, eMake_at, kMk1_some, kMk2_some, isCM_at, isCO_non, eGet1_at, kG12_some, kG13_some, eGet2_at, kG22_some, kG23_some, eCallD_at, kCallD_some, eKdx_at, kKdx_some, kIsB_at, atI0, atI1, eq_str, ixO_tup, lenO_tup, mTup_2, eqO_int, List.cons.injEq, Nat.reduceEqDiff, decide_false, decide_true, and_false, and_true, false_and, true_and, Bool.or_false, Bool.or_true, Bool.true_or, Bool.false_or, Bool.and_true, Bool.and_false, Bool.false_and, Bool.true_and, Int.reduceLE, Int.reduceLT, cDv_2, cMd_2, gDv_2, gMd_2, cDv_3, cMd_3, gDv_3, gMd_3, cDv_4, cMd_4, gDv_4, gMd_4, cDv_5, cMd_5, gDv_5, gMd_5, cDv_7, cMd_7, gDv_7, gMd_7, cDv_8, cMd_8, gDv_8, gMd_8, cDv_9, cMd_9, gDv_9, gMd_9, cDv_12, cMd_12, gDv_12, gMd_12, cDv_16, cMd_16, gDv_16, gMd_16, cDv_28, cMd_28, gDv_28, gMd_28, cDv_140, cMd_140, gDv_140, gMd_140, cDv_900, cMd_900, gDv_900, gMd_900, e3, e4, e5, e6, e7, e8, e9, c, hl, q3], R⟩
end
noncomputable def GOC : MS := (sSeq (sIf (tAnd (tOf (eVar 6)) (tAnd (tOf (eBin kEq (eBin kIx (eVar 4) (eC (.int 0))) (eC (.str [103, 111])))) (tOf (eBin kIs (eBin kIx (eVar 1) (eC (.str [102, 114, 97, 109, 101]))) (eC .non))))) (sRet (eCall F_l_counted (aCons (eVar 0) (aCons (eVar 1) aNil)))) sNext) (sSeq (sIf (tAnd (tOf (eVar 6)) (tOf (eBin kEq (eBin kIx (eVar 4) (eC (.int 0))) (eC (.str [103, 111]))))) (sSeq (sPut (eVar 1) (eC (.str [115, 116, 97, 116, 101])) (eBin kIx (eLst (aCons (eC (.str [103, 111, 101, 115])) (aCons (eC (.str [119, 97, 105, 116, 115])) (aCons (eC (.str [111, 118, 101, 114])) aNil)))) (eBin opMod (eBin opDiv (eVar 2) (eC (.int 16))) (eC (.int 3)))))
    (sExpr (eCall F_set_state (aCons (eVar 0) (aCons (eBin kIx (eVar 1) (eC (.str [103, 105, 118, 101, 114]))) (aCons (eBin kIx (eVar 1) (eC (.str [115, 116, 97, 116, 101]))) aNil)))))) sNext) (sRet (eVar 6))))
theorem go_eq : b_l_goes_on = sSeq (sSet 3 (eIf (tOf (eBin kEq (eBin opMod (eVar 2) (eC (.int 3))) (eC (.int 0)))) (eCall F_l_plain (aCons (eBin opDiv (eVar 2) (eC (.int 8))) aNil)) (eTup (aCons (eC (.str [110, 111, 110, 101])) aNil)))) (sSeq (sIf (tOf (eBin kEq (eBin opMod (eVar 2) (eC (.int 4))) (eC (.int 0)))) (sSeq (sSet 4 (eCall F_asked (aCons (eVar 0) (aCons (eBin kIx (eVar 1) (eC (.str [103, 105, 118, 101, 114]))) aNil))))
    (sSeq (sSet 5 (eGet2 (eDisp (psCons (eC (.str [103, 111, 101, 115])) (eTup (aCons (eC (.str [102, 97, 117, 108, 116])) (aCons (eC (.str [75, 105, 110, 100, 70, 97, 117, 108, 116])) aNil))) (psCons (eC (.str [111, 118, 101, 114])) (eTup (aCons (eC (.str [111, 118, 101, 114])) aNil)) psNil))) (eBin kIx (eVar 1) (eC (.str [115, 116, 97, 116, 101]))) (eTup (aCons (eC (.str [103, 111])) (aCons (eBin kIx (eVar 1) (eC (.str [103, 105, 118, 101, 114]))) (aCons (eTup (aCons (eC (.str [110, 111, 110, 101])) aNil)) aNil))))))
    (sSet 6 (eBin kEq (eVar 4) (eVar 5))))) (sSeq (sSet 7 (eIf (tOr (tOf (eBin kNe (eVar 3) (eTup (aCons (eC (.str [110, 111, 110, 101])) aNil)))) (tOf (eBin kEq (eBin opMod (eBin opDiv (eVar 2) (eC (.int 8))) (eC (.int 2))) (eC (.int 1))))) (eTup (aCons (eBin kIx (eVar 1) (eC (.str [103, 105, 118, 101, 114]))) (aCons (eVar 3) aNil))) (eTup (aCons (eBin kIx (eVar 1) (eC (.str [103, 105, 118, 101, 114]))) aNil))))
    (sSeq (sSet 4 (eCall F_called (aCons (eVar 0) (aCons (eCall F_known (aCons (eVar 0) (aCons (eC (.str [103, 111])) aNil))) (aCons (eVar 7) aNil)))))
    (sSet 6 (eCall F_l_go (aCons (eVar 0) (aCons (eVar 1) (aCons (eVar 3) (aCons (eVar 4) aNil))))))))) GOC) := rfl
section
variable {ths : List Nat} {st : Sto} {v : Gv}
theorem goc_no (h : GvOk ths st v) (n : Int) (x3 x5 x7 : Option D) {s : List Nat} {r : List D} (hs : s ≠ [103, 111]) :
    ∃ ρ, GOC [some (.ref 4), some (.ref v.d), some (.int n), x3, some (.tup (.str s :: r)), x5, some (.bl true), x7] st = some (.rt (.bl true), ρ, st) := by
  exact ⟨[some (.ref 4), some (.ref v.d), some (.int n), x3, some (.tup (.str s :: r)), x5, some (.bl true), x7], by simp only [GOC, eVar_at, kVar_some, eC_at, eBin_at, k2_some, k3_some, eUn_at, k1_some, kVal_some, kBl_some, kEq_at, kBlN_some, kNe_at, kIn_at, kNotIn_at, kIx_at, ixO_tup, kLt_int, kLe_int, kGt_int, kGe_int, kLt_str, kLe_str, kGt_str, kGe_str, kIs_non, kIs_bl, kIs_int, kIs_str, kIs_tup, kIs_ref, kIsNot_non, kIsNot_bl, kIsNot_int, kIsNot_str, kIsNot_tup, kIsNot_ref, opAdd_int, opAdd_str, opSub_int, opMul_int, opDiv_int, opMod_int, opPow_int, opAnd_int, opOr_int, opNeg_int, eChain_at, kc1_some, kc2_some, kc3_true, kc3_false, kc4_some, tOf_at, kTru_some, kTru2_some, truD_non, truD_bl, truD_int, truD_tup, tAnd_at, kAnd_true, kAnd_false, tOr_at, kOr_true, kOr_false, tNot_at, kNot_some, tYes_at, eAnd_at, keAnd_some, keAnd2_true, keAnd2_false, eOr_at, keOr_some, keOr2_true, keOr2_false, eNot_at, keNot_some, keNot2_some, eIf_at, keIf_true, keIf_false, aNil_at, aCons_at, ka1_some, ka2_some, eTup_at, kTup_0, kTup_1, kTup_2, kTup_3, kTup_4, kTup_5, kTup_6, eLst_at, kLst_0, kLst_1, kLst_2, kLst_3, kLst_4, eDic0_at, eCall_at, kCall_some, o1_at, isiO_at, kIsi_some, tyD_non, tyD_bl, tyD_int, tyD_str, tyD_tup, eBM_at, kbm1_some, kbm2_some, eSl_at, ks2_some, ks3_some, ks4_some, oNone_at, oSome_at, kSome_int, slO_str, sSeq_at, kSeq_nx, kSeq_rt, kSeq_bk, kSeq_ct, sNext_at, sBreak_at, sCont_at, sRetN_at, sRet_at, kRet_some, sExpr_at, kExpr_some, sSet_at, kSet_some, sIf_at, kIf_true, kIf_false, sPar2_k, kPar2_some, sPar3_k, kPar3_some, sAsg_at, kAsg_some, kAsg2_some, mName_at, mTup_2, mTup_3, mCons_at, kmCons_some, mNil_at, sPut_at, kp1_some, kp2_some, kp3_some, kp4_some, kFn_rt, kFn_nx, mkFn_0, mkFn_1, mkFn_2, mkFn_3, mkFn_4, mkFn_5, sWhile_at, List.getElem?_cons_zero, List.getElem?_cons_succ, List.set_cons_zero, List.set_cons_succ, List.replicate_succ, List.replicate_zero, Nat.reduceSub, Bool.not_true, Bool.not_false, ite_true, ite_false, if_true, if_false, reduceCtorEq, fldM_at, sFldM_at, kSF1_some, kSF2_some, kSF3_some, sFldAddM_at, kSA1_some, kSA2_int, eMake_at, kMk1_some, kMk2_some, isCM_at, isCO_non, eGet1_at, kG12_some, kG13_some, eGet2_at, kG22_some, kG23_some, eCallD_at, kCallD_some, eKdx_at, kKdx_some, kIsB_at, atI0, atI1, eq_str, ixO_tup, lenO_tup, mTup_2, eqO_int, List.cons.injEq, Nat.reduceEqDiff, decide_false, decide_true, and_false, and_true, false_and, true_and, Bool.or_false, Bool.or_true, Bool.true_or, Bool.false_or, Bool.and_true, Bool.and_false, Bool.false_and, Bool.true_and, Int.reduceLE, Int.reduceLT, cDv_2, cMd_2, gDv_2, gMd_2, cDv_3, cMd_3, gDv_3, gMd_3, cDv_4, cMd_4, gDv_4, gMd_4, cDv_5, cMd_5, gDv_5, gMd_5, cDv_7, cMd_7, gDv_7, gMd_7, cDv_8, cMd_8, gDv_8, gMd_8, cDv_9, cMd_9, gDv_9, gMd_9, cDv_12, cMd_12, gDv_12, gMd_12, cDv_16, cMd_16, gDv_16, gMd_16, cDv_28, cMd_28, gDv_28, gMd_28, cDv_140, cMd_140, gDv_140, gMd_140, cDv_900, cMd_900, gDv_900, gMd_900, hs]⟩
theorem goc_go (w : Wd ths st) (h : GvOk ths st v) (n : Int) (h0 : 0 ≤ n) (x3 x5 x7 : Option D) {r : List D} :
    ∃ ρ st', GOC [some (.ref 4), some (.ref v.d), some (.int n), x3, some (.tup (.str [103, 111] :: r)), x5, some (.bl true), x7] st = some (.rt (.bl true), ρ, st') ∧ Res ths st v st' := by
  have e2 := h.ix_frame
  cases hc : v.cnt with
  | true =>
    obtain ⟨st', c, R⟩ := lcounted_is w h hc
    have hf : isNon v.fr = true := by rw [(h.c1 hc).1]; rfl
    exact ⟨[some (.ref 4), some (.ref v.d), some (.int n), x3, some (.tup (.str [103, 111] :: r)), x5, some (.bl true), x7], st', by simp only [GOC, eVar_at, kVar_some, eC_at, eBin_at, k2_some, k3_some, eUn_at, k1_some, kVal_some, kBl_some, kEq_at, kBlN_some, kNe_at, kIn_at, kNotIn_at, kIx_at, ixO_tup, kLt_int, kLe_int, kGt_int, kGe_int, kLt_str, kLe_str, kGt_str, kGe_str, kIs_non, kIs_bl, kIs_int, kIs_str, kIs_tup, kIs_ref, kIsNot_non, kIsNot_bl, kIsNot_int, kIsNot_str, kIsNot_tup, kIsNot_ref, opAdd_int, opAdd_str, opSub_int, opMul_int, opDiv_int, opMod_int, opPow_int, opAnd_int, opOr_int, opNeg_int, eChain_at, kc1_some, kc2_some, kc3_true, kc3_false, kc4_some, tOf_at, kTru_some, kTru2_some, truD_non, truD_bl, truD_int, truD_tup, tAnd_at, kAnd_true, kAnd_false, tOr_at, kOr_true, kOr_false, tNot_at, kNot_some, tYes_at, eAnd_at, keAnd_some, keAnd2_true, keAnd2_false, eOr_at, keOr_some, keOr2_true, keOr2_false, eNot_at, keNot_some, keNot2_some, eIf_at, keIf_true, keIf_false, aNil_at, aCons_at, ka1_some, ka2_some, eTup_at, kTup_0, kTup_1, kTup_2, kTup_3, kTup_4, kTup_5, kTup_6, eLst_at, kLst_0, kLst_1, kLst_2, kLst_3, kLst_4, eDic0_at, eCall_at, kCall_some, o1_at, isiO_at, kIsi_some, tyD_non, tyD_bl, tyD_int, tyD_str, tyD_tup, eBM_at, kbm1_some, kbm2_some, eSl_at, ks2_some, ks3_some, ks4_some, oNone_at, oSome_at, kSome_int, slO_str, sSeq_at, kSeq_nx, kSeq_rt, kSeq_bk, kSeq_ct, sNext_at, sBreak_at, sCont_at, sRetN_at, sRet_at, kRet_some, sExpr_at, kExpr_some, sSet_at, kSet_some, sIf_at, kIf_true, kIf_false, sPar2_k, kPar2_some, sPar3_k, kPar3_some, sAsg_at, kAsg_some, kAsg2_some, mName_at, mTup_2, mTup_3, mCons_at, kmCons_some, mNil_at, sPut_at, kp1_some, kp2_some, kp3_some, kp4_some, kFn_rt, kFn_nx, mkFn_0, mkFn_1, mkFn_2, mkFn_3, mkFn_4, mkFn_5, sWhile_at, List.getElem?_cons_zero, List.getElem?_cons_succ, List.set_cons_zero, List.set_cons_succ, List.replicate_succ, List.replicate_zero, Nat.reduceSub, Bool.not_true, Bool.not_false, ite_true, ite_false, if_true, if_false, reduceCtorEq, fldM_at, sFldM_at, kSF1_some, kSF2_some, kSF3_some, sFldAddM_at, kSA1_some, kSA2_int, eMake_at, kMk1_some, kMk2_some, isCM_at, isCO_non, eGet1_at, kG12_some, kG13_some, eGet2_at, kG22_some, kG23_some, eCallD_at, kCallD_some, eKdx_at, kKdx_some, kIsB_at, atI0, atI1, eq_str, ixO_tup, lenO_tup, mTup_2, eqO_int, List.cons.injEq, Nat.reduceEqDiff, decide_false, decide_true, and_false, and_true, false_and, true_and, Bool.or_false, Bool.or_true, Bool.true_or, Bool.false_or, Bool.and_true, Bool.and_false, Bool.false_and, Bool.true_and, Int.reduceLE, Int.reduceLT, cDv_2, cMd_2, gDv_2, gMd_2, cDv_3, cMd_3, gDv_3, gMd_3, cDv_4, cMd_4, gDv_4, gMd_4, cDv_5, cMd_5, gDv_5, gMd_5, cDv_7, cMd_7, gDv_7, gMd_7, cDv_8, cMd_8, gDv_8, gMd_8, cDv_9, cMd_9, gDv_9, gMd_9, cDv_12, cMd_12, gDv_12, gMd_12, cDv_16, cMd_16, gDv_16, gMd_16, cDv_28, cMd_28, gDv_28, gMd_28, cDv_140, cMd_140, gDv_140, gMd_140, cDv_900, cMd_900, gDv_900, gMd_900, e2, kIs_at, hf, c], R⟩
  | false =>
    have hf := h.c0 hc
    have r0 : 0 ≤ n / 16 % 3 := by omega
    have r1 : n / 16 % 3 < 3 := by omega
    obtain ⟨x, hx, e⟩ := atI_in (xs := [D.str sGoes, .str sWaits, .str sOver]) r0 (by simpa using r1)
    have hx' : ∃ s, x = .str s ∧ St4 s := by
      simp only [List.mem_cons, List.not_mem_nil, or_false] at hx
      rcases hx with rfl | rfl | rfl
      · exact ⟨_, rfl, .inr (.inl rfl)⟩
      · exact ⟨_, rfl, .inr (.inr (.inl rfl))⟩
      · exact ⟨_, rfl, .inr (.inr (.inr rfl))⟩
    obtain ⟨s, rfl, h4⟩ := hx'
    have e4 : ixO (.ref st.length) (.int (n / 16 % 3)) (st ++ [.lst [D.str sGoes, .str sWaits, .str sOver]]) = some (.str s) := ixO_end.trans e
    have hd : (st ++ [Ob.lst [D.str sGoes, .str sWaits, .str sOver]])[v.d]? = some (.dic v.one) := get_grow h.d
    have hr : (st ++ [Ob.lst [D.str sGoes, .str sWaits, .str sOver]])[v.r]? = some v.rc := get_grow h.r
    have ld := (List.getElem?_eq_some_iff.mp hd).1
    have e5 := set_dic (k := [115, 116, 97, 116, 101]) (x := .str s) hd (one_len v)
    rw [put_state] at e5
    have hd2 : ((st ++ [Ob.lst [D.str sGoes, .str sWaits, .str sOver]]).set v.d (.dic ({ v with s := s } : Gv).one))[v.d]? = some (.dic ({ v with s := s } : Gv).one) := List.getElem?_set_self ld
    have hr2 : ((st ++ [Ob.lst [D.str sGoes, .str sWaits, .str sOver]]).set v.d (.dic ({ v with s := s } : Gv).one))[v.r]? = some (recG v.nm v.fr v.en v.at_ (.str v.s)) := by
      rw [List.getElem?_set_ne h.ne]
      exact hr
    have e6 := ix_dic hd2 (one_giver ({ v with s := s } : Gv))
    have e7 := ix_dic hd2 (one_state ({ v with s := s } : Gv))
    have w2 : Wd ths ((st ++ [Ob.lst [D.str sGoes, .str sWaits, .str sOver]]).set v.d (.dic ({ v with s := s } : Gv).one)) := (w.grow).set h.ld
    have e8 := set_is w2 h.i hr2 (.str s)
    have R := Res.both (v' := { v with s := s }) w h [Ob.lst [D.str sGoes, .str sWaits, .str sOver]] ⟨rfl, rfl, rfl, rfl, rfl⟩ h4 h.c1
    refine ⟨[some (.ref 4), some (.ref v.d), some (.int n), x3, some (.tup (.str [103, 111] :: r)), x5, some (.bl true), x7], _, ?_, R⟩
    simp only [GOC, eVar_at, kVar_some, eC_at, eBin_at, k2_some, k3_some, eUn_at, k1_some, kVal_some, kBl_some, kEq_at, kBlN_some, kNe_at, kIn_at, kNotIn_at, kIx_at, ixO_tup, kLt_int, kLe_int, kGt_int, kGe_int, kLt_str, kLe_str, kGt_str, kGe_str, kIs_non, kIs_bl, kIs_int, kIs_str, kIs_tup, kIs_ref, kIsNot_non, kIsNot_bl, kIsNot_int, kIsNot_str, kIsNot_tup, kIsNot_ref, opAdd_int, opAdd_str, opSub_int, opMul_int, opDiv_int, opMod_int, opPow_int, opAnd_int, opOr_int, opNeg_int, eChain_at, kc1_some, kc2_some, kc3_true, kc3_false, kc4_some, tOf_at, kTru_some, kTru2_some, truD_non, truD_bl, truD_int, truD_tup, tAnd_at, kAnd_true, kAnd_false, tOr_at, kOr_true, kOr_false, tNot_at, kNot_some, tYes_at, eAnd_at, keAnd_some, keAnd2_true, keAnd2_false, eOr_at, keOr_some, keOr2_true, keOr2_false, eNot_at, keNot_some, keNot2_some, eIf_at, keIf_true, keIf_false, aNil_at, aCons_at, ka1_some, ka2_some, eTup_at, kTup_0, kTup_1, kTup_2, kTup_3, kTup_4, kTup_5, kTup_6, eLst_at, kLst_0, kLst_1, kLst_2, kLst_3, kLst_4, eDic0_at, eCall_at, kCall_some, o1_at, isiO_at, kIsi_some, tyD_non, tyD_bl, tyD_int, tyD_str, tyD_tup, eBM_at, kbm1_some, kbm2_some, eSl_at, ks2_some, ks3_some, ks4_some, oNone_at, oSome_at, kSome_int, slO_str, sSeq_at, kSeq_nx, kSeq_rt, kSeq_bk, kSeq_ct, sNext_at, sBreak_at, sCont_at, sRetN_at, sRet_at, kRet_some, sExpr_at, kExpr_some, sSet_at, kSet_some, sIf_at, kIf_true, kIf_false, sPar2_k, kPar2_some, sPar3_k, kPar3_some, sAsg_at, kAsg_some, kAsg2_some, mName_at, mTup_2, mTup_3, mCons_at, kmCons_some, mNil_at, sPut_at, kp1_some, kp2_some, kp3_some, kp4_some, kFn_rt, kFn_nx, mkFn_0, mkFn_1, mkFn_2, mkFn_3, mkFn_4, mkFn_5, sWhile_at, List.getElem?_cons_zero, List.getElem?_cons_succ, List.set_cons_zero, List.set_cons_succ, List.replicate_succ, List.replicate_zero, Nat.reduceSub, Bool.not_true, Bool.not_false, ite_true, ite_false, if_true, if_false, reduceCtorEq, fldM_at, sFldM_at, kSF1_some, kSF2_some, kSF3_some, sFldAddM_at, kSA1_some, kSA2_int, eMake_at, kMk1_some, kMk2_some, isCM_at, isCO_non, eGet1_at, kG12_some, kG13_some, eGet2_at, kG22_some, kG23_some, eCallD_at, kCallD_some, eKdx_at, kKdx_some, kIsB_at, atI0, atI1, eq_str, ixO_tup, lenO_tup, mTup_2, eqO_int, List.cons.injEq, Nat.reduceEqDiff, decide_false, decide_true, and_false, and_true, false_and, true_and, Bool.or_false, Bool.or_true, Bool.true_or, Bool.false_or, Bool.and_true, Bool.and_false, Bool.false_and, Bool.true_and, Int.reduceLE, Int.reduceLT, cDv_2, cMd_2, gDv_2, gMd_2, cDv_3, cMd_3, gDv_3, gMd_3, cDv_4, cMd_4, gDv_4, gMd_4, cDv_5, cMd_5, gDv_5, gMd_5, cDv_7, cMd_7, gDv_7, gMd_7, cDv_8, cMd_8, gDv_8, gMd_8, cDv_9, cMd_9, gDv_9, gMd_9, cDv_12, cMd_12, gDv_12, gMd_12, cDv_16, cMd_16, gDv_16, gMd_16, cDv_28, cMd_28, gDv_28, gMd_28, cDv_140, cMd_140, gDv_140, gMd_140, cDv_900, cMd_900, gDv_900, gMd_900, e2, e4, e5, e6, e7, e8, kIs_at, hf]
    rfl
end
end Math

set_option maxRecDepth 100000
set_option maxHeartbeats 4000000
namespace Math
open MP Text PySem
abbrev D2 : List (Sum Int Str × D) := [(.inr (mkS sGoes), fK), (.inr (mkS sOver), .tup [.str [111, 118, 101, 114]])]
theorem disp2 (ρ : Rho) (st : Sto) : eDisp (psCons (eC (.str sGoes)) (eTup (aCons (eC (.str [102, 97, 117, 108, 116])) (aCons (eC (.str [75, 105, 110, 100, 70, 97, 117, 108, 116])) aNil))) (psCons (eC (.str sOver)) (eTup (aCons (eC (.str [111, 118, 101, 114])) aNil)) psNil)) ρ st = some (.ref st.length, st ++ [.dic D2]) := by
  have h1 : myD (st ++ [Ob.dic []]) st.length = some [] := by
    unfold myD
    rw [at_end]
  have h2 : mergeD ([] : List (Sum Int Str × D)) D2 = D2 := by rfl
  simp only [eDisp, psCons, psNil, eVar_at, kVar_some, eC_at, eBin_at, k2_some, k3_some, eUn_at, k1_some, kVal_some, kBl_some, kEq_at, kBlN_some, kNe_at, kIn_at, kNotIn_at, kIx_at, ixO_tup, kLt_int, kLe_int, kGt_int, kGe_int, kLt_str, kLe_str, kGt_str, kGe_str, kIs_non, kIs_bl, kIs_int, kIs_str, kIs_tup, kIs_ref, kIsNot_non, kIsNot_bl, kIsNot_int, kIsNot_str, kIsNot_tup, kIsNot_ref, opAdd_int, opAdd_str, opSub_int, opMul_int, opDiv_int, opMod_int, opPow_int, opAnd_int, opOr_int, opNeg_int, eChain_at, kc1_some, kc2_some, kc3_true, kc3_false, kc4_some, tOf_at, kTru_some, kTru2_some, truD_non, truD_bl, truD_int, truD_tup, tAnd_at, kAnd_true, kAnd_false, tOr_at, kOr_true, kOr_false, tNot_at, kNot_some, tYes_at, eAnd_at, keAnd_some, keAnd2_true, keAnd2_false, eOr_at, keOr_some, keOr2_true, keOr2_false, eNot_at, keNot_some, keNot2_some, eIf_at, keIf_true, keIf_false, aNil_at, aCons_at, ka1_some, ka2_some, eTup_at, kTup_0, kTup_1, kTup_2, kTup_3, kTup_4, kTup_5, kTup_6, eLst_at, kLst_0, kLst_1, kLst_2, kLst_3, kLst_4, eDic0_at, eCall_at, kCall_some, o1_at, isiO_at, kIsi_some, tyD_non, tyD_bl, tyD_int, tyD_str, tyD_tup, eBM_at, kbm1_some, kbm2_some, eSl_at, ks2_some, ks3_some, ks4_some, oNone_at, oSome_at, kSome_int, slO_str, sSeq_at, kSeq_nx, kSeq_rt, kSeq_bk, kSeq_ct, sNext_at, sBreak_at, sCont_at, sRetN_at, sRet_at, kRet_some, sExpr_at, kExpr_some, sSet_at, kSet_some, sIf_at, kIf_true, kIf_false, sPar2_k, kPar2_some, sPar3_k, kPar3_some, sAsg_at, kAsg_some, kAsg2_some, mName_at, mTup_2, mTup_3, mCons_at, kmCons_some, mNil_at, sPut_at, kp1_some, kp2_some, kp3_some, kp4_some, kFn_rt, kFn_nx, mkFn_0, mkFn_1, mkFn_2, mkFn_3, mkFn_4, mkFn_5, sWhile_at, List.getElem?_cons_zero, List.getElem?_cons_succ, List.set_cons_zero, List.set_cons_succ, List.replicate_succ, List.replicate_zero, Nat.reduceSub, Bool.not_true, Bool.not_false, ite_true, ite_false, if_true, if_false, reduceCtorEq, fldM_at, sFldM_at, kSF1_some, kSF2_some, kSF3_some, sFldAddM_at, kSA1_some, kSA2_int, eMake_at, kMk1_some, kMk2_some, isCM_at, isCO_non, eGet1_at, kG12_some, kG13_some, eGet2_at, kG22_some, kG23_some, eCallD_at, kCallD_some, eKdx_at, kKdx_some, kIsB_at, atI0, atI1, eq_str, ixO_tup, lenO_tup, mTup_2, eqO_int, List.cons.injEq, Nat.reduceEqDiff, decide_false, decide_true, and_false, and_true, false_and, true_and, Bool.or_false, Bool.or_true, Bool.true_or, Bool.false_or, Bool.and_true, Bool.and_false, Bool.false_and, Bool.true_and, Int.reduceLE, Int.reduceLT, cDv_2, cMd_2, gDv_2, gMd_2, cDv_3, cMd_3, gDv_3, gMd_3, cDv_4, cMd_4, gDv_4, gMd_4, cDv_5, cMd_5, gDv_5, gMd_5, cDv_7, cMd_7, gDv_7, gMd_7, cDv_8, cMd_8, gDv_8, gMd_8, cDv_9, cMd_9, gDv_9, gMd_9, cDv_12, cMd_12, gDv_12, gMd_12, cDv_16, cMd_16, gDv_16, gMd_16, cDv_28, cMd_28, gDv_28, gMd_28, cDv_140, cMd_140, gDv_140, gMd_140, cDv_900, cMd_900, gDv_900, gMd_900, Option.bind_some, Option.map_some, keysO, keyOf, h1, h2, List.length_cons, List.length_nil, Nat.reduceAdd, Nat.reduceLeDiff]
  exact congrArg (fun z => some (D.ref st.length, z)) (set_end st _ _ [])
theorem goA_cases (s : List Nat) (b n : Bool) (g x : D) : goA s b n g x = .tup [.str [103, 111], g, x] ∨ ∃ t r, goA s b n g x = .tup (.str t :: r) ∧ t ≠ [103, 111] := by
  unfold goA
  split
  · exact .inr ⟨_, _, rfl, by decide⟩
  · split
    · exact .inr ⟨_, _, rfl, by decide⟩
    · split
      · exact .inr ⟨_, _, rfl, by decide⟩
      · exact .inl rfl
theorem askA_cases (s : List Nat) (g : D) : askA s g = .tup [.str [103, 111], g, aNo] ∨ ∃ t r, askA s g = .tup (.str t :: r) ∧ t ≠ [103, 111] := by
  unfold askA
  split
  · exact .inr ⟨_, _, rfl, by decide⟩
  · split
    · exact .inr ⟨_, _, rfl, by decide⟩
    · exact .inl rfl
theorem askA_self (s : List Nat) (i : Int) (st : Sto) : eqO st (askA s (th i)) (askA s (th i)) = some true := by
  unfold askA
  split
  · exact eqO_self pd_fK
  · split
    · exact eqO_self pd_ove
    · exact eqO_self (pd_go .non i)
section
variable {ths : List Nat} {st : Sto} {v : Gv}
theorem GvOk.more (h : GvOk ths st v) (g : Sto) : GvOk ths (st ++ g) v := by
  have h2 := h.grow (more := []) (Only.grow (J := []) (g := g)) (fun z => by cases z) (fun z => by cases z)
  rwa [List.append_nil] at h2
theorem Res.after {g st' : Sto} (R : Res ths (st ++ g) v st') : Res ths st v st' := by
  obtain ⟨v', w', h', s', o'⟩ := R
  exact ⟨v', w', h', s', Only.grow.trans o'⟩
theorem goes_is (w : Wd ths st) (h : GvOk ths st v) (n : Int) (h0 : 0 ≤ n) : ∃ st', F_l_goes_on [.ref 4, .ref v.d, .int n] st = some (.bl true, st') ∧ Res ths st v st' := by
  have s3 : ∃ x g, PlV x ∧ eIf (tOf (eBin kEq (eBin opMod (eVar 2) (eC (.int 3))) (eC (.int 0)))) (eCall F_l_plain (aCons (eBin opDiv (eVar 2) (eC (.int 8))) aNil)) (eTup (aCons (eC (.str [110, 111, 110, 101])) aNil)) [some (.ref 4), some (.ref v.d), some (.int n), none, none, none, none, none] st = some (x, st ++ g) := by
    by_cases c : n % 3 = 0
    · obtain ⟨x, g, hx, e⟩ := plain_is (n / 8) (by omega) st
      have c' : (n % 3 == 0) = true := beq_iff_eq.mpr c
      exact ⟨x, g, hx, by simp only [eVar_at, kVar_some, eC_at, eBin_at, k2_some, k3_some, eUn_at, k1_some, kVal_some, kBl_some, kEq_at, kBlN_some, kNe_at, kIn_at, kNotIn_at, kIx_at, ixO_tup, kLt_int, kLe_int, kGt_int, kGe_int, kLt_str, kLe_str, kGt_str, kGe_str, kIs_non, kIs_bl, kIs_int, kIs_str, kIs_tup, kIs_ref, kIsNot_non, kIsNot_bl, kIsNot_int, kIsNot_str, kIsNot_tup, kIsNot_ref, opAdd_int, opAdd_str, opSub_int, opMul_int, opDiv_int, opMod_int, opPow_int, opAnd_int, opOr_int, opNeg_int, eChain_at, kc1_some, kc2_some, kc3_true, kc3_false, kc4_some, tOf_at, kTru_some, kTru2_some, truD_non, truD_bl, truD_int, truD_tup, tAnd_at, kAnd_true, kAnd_false, tOr_at, kOr_true, kOr_false, tNot_at, kNot_some, tYes_at, eAnd_at, keAnd_some, keAnd2_true, keAnd2_false, eOr_at, keOr_some, keOr2_true, keOr2_false, eNot_at, keNot_some, keNot2_some, eIf_at, keIf_true, keIf_false, aNil_at, aCons_at, ka1_some, ka2_some, eTup_at, kTup_0, kTup_1, kTup_2, kTup_3, kTup_4, kTup_5, kTup_6, eLst_at, kLst_0, kLst_1, kLst_2, kLst_3, kLst_4, eDic0_at, eCall_at, kCall_some, o1_at, isiO_at, kIsi_some, tyD_non, tyD_bl, tyD_int, tyD_str, tyD_tup, eBM_at, kbm1_some, kbm2_some, eSl_at, ks2_some, ks3_some, ks4_some, oNone_at, oSome_at, kSome_int, slO_str, sSeq_at, kSeq_nx, kSeq_rt, kSeq_bk, kSeq_ct, sNext_at, sBreak_at, sCont_at, sRetN_at, sRet_at, kRet_some, sExpr_at, kExpr_some, sSet_at, kSet_some, sIf_at, kIf_true, kIf_false, sPar2_k, kPar2_some, sPar3_k, kPar3_some, sAsg_at, kAsg_some, kAsg2_some, mName_at, mTup_2, mTup_3, mCons_at, kmCons_some, mNil_at, sPut_at, kp1_some, kp2_some, kp3_some, kp4_some, kFn_rt, kFn_nx, mkFn_0, mkFn_1, mkFn_2, mkFn_3, mkFn_4, mkFn_5, sWhile_at, List.getElem?_cons_zero, List.getElem?_cons_succ, List.set_cons_zero, List.set_cons_succ, List.replicate_succ, List.replicate_zero, Nat.reduceSub, Bool.not_true, Bool.not_false, ite_true, ite_false, if_true, if_false, reduceCtorEq, fldM_at, sFldM_at, kSF1_some, kSF2_some, kSF3_some, sFldAddM_at, kSA1_some, kSA2_int, eMake_at, kMk1_some, kMk2_some, isCM_at, isCO_non, eGet1_at, kG12_some, kG13_some, eGet2_at, kG22_some, kG23_some, eCallD_at, kCallD_some, eKdx_at, kKdx_some, kIsB_at, atI0, atI1, eq_str, ixO_tup, lenO_tup, mTup_2, eqO_int, List.cons.injEq, Nat.reduceEqDiff, decide_false, decide_true, and_false, and_true, false_and, true_and, Bool.or_false, Bool.or_true, Bool.true_or, Bool.false_or, Bool.and_true, Bool.and_false, Bool.false_and, Bool.true_and, Int.reduceLE, Int.reduceLT, cDv_2, cMd_2, gDv_2, gMd_2, cDv_3, cMd_3, gDv_3, gMd_3, cDv_4, cMd_4, gDv_4, gMd_4, cDv_5, cMd_5, gDv_5, gMd_5, cDv_7, cMd_7, gDv_7, gMd_7, cDv_8, cMd_8, gDv_8, gMd_8, cDv_9, cMd_9, gDv_9, gMd_9, cDv_12, cMd_12, gDv_12, gMd_12, cDv_16, cMd_16, gDv_16, gMd_16, cDv_28, cMd_28, gDv_28, gMd_28, cDv_140, cMd_140, gDv_140, gMd_140, cDv_900, cMd_900, gDv_900, gMd_900, c', e]⟩
    · have c' : (n % 3 == 0) = false := beq_eq_false_iff_ne.mpr c
      exact ⟨aNo, [], .non, by simp only [eVar_at, kVar_some, eC_at, eBin_at, k2_some, k3_some, eUn_at, k1_some, kVal_some, kBl_some, kEq_at, kBlN_some, kNe_at, kIn_at, kNotIn_at, kIx_at, ixO_tup, kLt_int, kLe_int, kGt_int, kGe_int, kLt_str, kLe_str, kGt_str, kGe_str, kIs_non, kIs_bl, kIs_int, kIs_str, kIs_tup, kIs_ref, kIsNot_non, kIsNot_bl, kIsNot_int, kIsNot_str, kIsNot_tup, kIsNot_ref, opAdd_int, opAdd_str, opSub_int, opMul_int, opDiv_int, opMod_int, opPow_int, opAnd_int, opOr_int, opNeg_int, eChain_at, kc1_some, kc2_some, kc3_true, kc3_false, kc4_some, tOf_at, kTru_some, kTru2_some, truD_non, truD_bl, truD_int, truD_tup, tAnd_at, kAnd_true, kAnd_false, tOr_at, kOr_true, kOr_false, tNot_at, kNot_some, tYes_at, eAnd_at, keAnd_some, keAnd2_true, keAnd2_false, eOr_at, keOr_some, keOr2_true, keOr2_false, eNot_at, keNot_some, keNot2_some, eIf_at, keIf_true, keIf_false, aNil_at, aCons_at, ka1_some, ka2_some, eTup_at, kTup_0, kTup_1, kTup_2, kTup_3, kTup_4, kTup_5, kTup_6, eLst_at, kLst_0, kLst_1, kLst_2, kLst_3, kLst_4, eDic0_at, eCall_at, kCall_some, o1_at, isiO_at, kIsi_some, tyD_non, tyD_bl, tyD_int, tyD_str, tyD_tup, eBM_at, kbm1_some, kbm2_some, eSl_at, ks2_some, ks3_some, ks4_some, oNone_at, oSome_at, kSome_int, slO_str, sSeq_at, kSeq_nx, kSeq_rt, kSeq_bk, kSeq_ct, sNext_at, sBreak_at, sCont_at, sRetN_at, sRet_at, kRet_some, sExpr_at, kExpr_some, sSet_at, kSet_some, sIf_at, kIf_true, kIf_false, sPar2_k, kPar2_some, sPar3_k, kPar3_some, sAsg_at, kAsg_some, kAsg2_some, mName_at, mTup_2, mTup_3, mCons_at, kmCons_some, mNil_at, sPut_at, kp1_some, kp2_some, kp3_some, kp4_some, kFn_rt, kFn_nx, mkFn_0, mkFn_1, mkFn_2, mkFn_3, mkFn_4, mkFn_5, sWhile_at, List.getElem?_cons_zero, List.getElem?_cons_succ, List.set_cons_zero, List.set_cons_succ, List.replicate_succ, List.replicate_zero, Nat.reduceSub, Bool.not_true, Bool.not_false, ite_true, ite_false, if_true, if_false, reduceCtorEq, fldM_at, sFldM_at, kSF1_some, kSF2_some, kSF3_some, sFldAddM_at, kSA1_some, kSA2_int, eMake_at, kMk1_some, kMk2_some, isCM_at, isCO_non, eGet1_at, kG12_some, kG13_some, eGet2_at, kG22_some, kG23_some, eCallD_at, kCallD_some, eKdx_at, kKdx_some, kIsB_at, atI0, atI1, eq_str, ixO_tup, lenO_tup, mTup_2, eqO_int, List.cons.injEq, Nat.reduceEqDiff, decide_false, decide_true, and_false, and_true, false_and, true_and, Bool.or_false, Bool.or_true, Bool.true_or, Bool.false_or, Bool.and_true, Bool.and_false, Bool.false_and, Bool.true_and, Int.reduceLE, Int.reduceLT, cDv_2, cMd_2, gDv_2, gMd_2, cDv_3, cMd_3, gDv_3, gMd_3, cDv_4, cMd_4, gDv_4, gMd_4, cDv_5, cMd_5, gDv_5, gMd_5, cDv_7, cMd_7, gDv_7, gMd_7, cDv_8, cMd_8, gDv_8, gMd_8, cDv_9, cMd_9, gDv_9, gMd_9, cDv_12, cMd_12, gDv_12, gMd_12, cDv_16, cMd_16, gDv_16, gMd_16, cDv_28, cMd_28, gDv_28, gMd_28, cDv_140, cMd_140, gDv_140, gMd_140, cDv_900, cMd_900, gDv_900, gMd_900, c', List.append_nil]⟩
  obtain ⟨x, g, hx, e3⟩ := s3
  have w1 : Wd ths (st ++ g) := w.grow
  have h1 := h.more g
  have ig := h1.ix_giver
  have is := h1.ix_state
  -- what is told first
  have s1 : ∃ (F : D) (g2 : Sto) (x5 x7 : Option D), (F = .tup [.str [103, 111], th (v.i : Nat), x] ∨ F = .tup [.str [103, 111], th (v.i : Nat), aNo] ∨ ∃ t r, F = .tup (.str t :: r) ∧ t ≠ [103, 111]) ∧
      (sIf (tOf (eBin kEq (eBin opMod (eVar 2) (eC (.int 4))) (eC (.int 0)))) (sSeq (sSet 4 (eCall F_asked (aCons (eVar 0) (aCons (eBin kIx (eVar 1) (eC (.str [103, 105, 118, 101, 114]))) aNil))))
    (sSeq (sSet 5 (eGet2 (eDisp (psCons (eC (.str [103, 111, 101, 115])) (eTup (aCons (eC (.str [102, 97, 117, 108, 116])) (aCons (eC (.str [75, 105, 110, 100, 70, 97, 117, 108, 116])) aNil))) (psCons (eC (.str [111, 118, 101, 114])) (eTup (aCons (eC (.str [111, 118, 101, 114])) aNil)) psNil))) (eBin kIx (eVar 1) (eC (.str [115, 116, 97, 116, 101]))) (eTup (aCons (eC (.str [103, 111])) (aCons (eBin kIx (eVar 1) (eC (.str [103, 105, 118, 101, 114]))) (aCons (eTup (aCons (eC (.str [110, 111, 110, 101])) aNil)) aNil))))))
    (sSet 6 (eBin kEq (eVar 4) (eVar 5))))) (sSeq (sSet 7 (eIf (tOr (tOf (eBin kNe (eVar 3) (eTup (aCons (eC (.str [110, 111, 110, 101])) aNil)))) (tOf (eBin kEq (eBin opMod (eBin opDiv (eVar 2) (eC (.int 8))) (eC (.int 2))) (eC (.int 1))))) (eTup (aCons (eBin kIx (eVar 1) (eC (.str [103, 105, 118, 101, 114]))) (aCons (eVar 3) aNil))) (eTup (aCons (eBin kIx (eVar 1) (eC (.str [103, 105, 118, 101, 114]))) aNil))))
    (sSeq (sSet 4 (eCall F_called (aCons (eVar 0) (aCons (eCall F_known (aCons (eVar 0) (aCons (eC (.str [103, 111])) aNil))) (aCons (eVar 7) aNil)))))
    (sSet 6 (eCall F_l_go (aCons (eVar 0) (aCons (eVar 1) (aCons (eVar 3) (aCons (eVar 4) aNil))))))))) [some (.ref 4), some (.ref v.d), some (.int n), some x, none, none, none, none] (st ++ g) = some (.nx, [some (.ref 4), some (.ref v.d), some (.int n), some x, some F, x5, some (.bl true), x7], st ++ g ++ g2) := by
    by_cases c : n % 4 = 0
    · have c' : (n % 4 == 0) = true := beq_iff_eq.mpr c
      have a1 := asked_is w1 h1.i h1.r h1.s
      have hd : (st ++ g ++ [Ob.dic D2])[v.d]? = some (.dic v.one) := get_grow h1.d
      have i1 := ix_dic hd (one_giver v)
      have i2 := ix_dic hd (one_state v)
      have my : myD (st ++ g ++ [Ob.dic D2]) (st ++ g).length = some D2 := by
        unfold myD
        rw [at_end]
      have my' : (myD (st ++ g ++ [Ob.dic D2]) (st ++ g).length).isSome = true := by rw [my]; rfl
      have gt : getO (st ++ g).length (.str v.s) (.tup [.str [103, 111], th (v.i : Nat), aNo]) (st ++ g ++ [Ob.dic D2]) = some (askA v.s (th (v.i : Nat))) := by
        unfold getO
        rw [my]
        rcases h.s with hs | hs | hs | hs <;> rw [hs] <;> rfl
      have q := askA_self v.s (v.i : Nat) (st ++ g ++ [Ob.dic D2])
      refine ⟨askA v.s (th (v.i : Nat)), [.dic D2], some (askA v.s (th (v.i : Nat))), none, ?_, ?_⟩
      · rcases askA_cases v.s (th (v.i : Nat)) with z | z
        · exact .inr (.inl z)
        · exact .inr (.inr z)
      · simp only [eVar_at, kVar_some, eC_at, eBin_at, k2_some, k3_some, eUn_at, k1_some, kVal_some, kBl_some, kEq_at, kBlN_some, kNe_at, kIn_at, kNotIn_at, kIx_at, ixO_tup, kLt_int, kLe_int, kGt_int, kGe_int, kLt_str, kLe_str, kGt_str, kGe_str, kIs_non, kIs_bl, kIs_int, kIs_str, kIs_tup, kIs_ref, kIsNot_non, kIsNot_bl, kIsNot_int, kIsNot_str, kIsNot_tup, kIsNot_ref, opAdd_int, opAdd_str, opSub_int, opMul_int, opDiv_int, opMod_int, opPow_int, opAnd_int, opOr_int, opNeg_int, eChain_at, kc1_some, kc2_some, kc3_true, kc3_false, kc4_some, tOf_at, kTru_some, kTru2_some, truD_non, truD_bl, truD_int, truD_tup, tAnd_at, kAnd_true, kAnd_false, tOr_at, kOr_true, kOr_false, tNot_at, kNot_some, tYes_at, eAnd_at, keAnd_some, keAnd2_true, keAnd2_false, eOr_at, keOr_some, keOr2_true, keOr2_false, eNot_at, keNot_some, keNot2_some, eIf_at, keIf_true, keIf_false, aNil_at, aCons_at, ka1_some, ka2_some, eTup_at, kTup_0, kTup_1, kTup_2, kTup_3, kTup_4, kTup_5, kTup_6, eLst_at, kLst_0, kLst_1, kLst_2, kLst_3, kLst_4, eDic0_at, eCall_at, kCall_some, o1_at, isiO_at, kIsi_some, tyD_non, tyD_bl, tyD_int, tyD_str, tyD_tup, eBM_at, kbm1_some, kbm2_some, eSl_at, ks2_some, ks3_some, ks4_some, oNone_at, oSome_at, kSome_int, slO_str, sSeq_at, kSeq_nx, kSeq_rt, kSeq_bk, kSeq_ct, sNext_at, sBreak_at, sCont_at, sRetN_at, sRet_at, kRet_some, sExpr_at, kExpr_some, sSet_at, kSet_some, sIf_at, kIf_true, kIf_false, sPar2_k, kPar2_some, sPar3_k, kPar3_some, sAsg_at, kAsg_some, kAsg2_some, mName_at, mTup_2, mTup_3, mCons_at, kmCons_some, mNil_at, sPut_at, kp1_some, kp2_some, kp3_some, kp4_some, kFn_rt, kFn_nx, mkFn_0, mkFn_1, mkFn_2, mkFn_3, mkFn_4, mkFn_5, sWhile_at, List.getElem?_cons_zero, List.getElem?_cons_succ, List.set_cons_zero, List.set_cons_succ, List.replicate_succ, List.replicate_zero, Nat.reduceSub, Bool.not_true, Bool.not_false, ite_true, ite_false, if_true, if_false, reduceCtorEq, fldM_at, sFldM_at, kSF1_some, kSF2_some, kSF3_some, sFldAddM_at, kSA1_some, kSA2_int, eMake_at, kMk1_some, kMk2_some, isCM_at, isCO_non, eGet1_at, kG12_some, kG13_some, eGet2_at, kG22_some, kG23_some, eCallD_at, kCallD_some, eKdx_at, kKdx_some, kIsB_at, atI0, atI1, eq_str, ixO_tup, lenO_tup, mTup_2, eqO_int, List.cons.injEq, Nat.reduceEqDiff, decide_false, decide_true, and_false, and_true, false_and, true_and, Bool.or_false, Bool.or_true, Bool.true_or, Bool.false_or, Bool.and_true, Bool.and_false, Bool.false_and, Bool.true_and, Int.reduceLE, Int.reduceLT, cDv_2, cMd_2, gDv_2, gMd_2, cDv_3, cMd_3, gDv_3, gMd_3, cDv_4, cMd_4, gDv_4, gMd_4, cDv_5, cMd_5, gDv_5, gMd_5, cDv_7, cMd_7, gDv_7, gMd_7, cDv_8, cMd_8, gDv_8, gMd_8, cDv_9, cMd_9, gDv_9, gMd_9, cDv_12, cMd_12, gDv_12, gMd_12, cDv_16, cMd_16, gDv_16, gMd_16, cDv_28, cMd_28, gDv_28, gMd_28, cDv_140, cMd_140, gDv_140, gMd_140, cDv_900, cMd_900, gDv_900, gMd_900, c', ig, a1, disp2, i1, i2, kG21_some my', gt, q]
    · have c' : (n % 4 == 0) = false := beq_eq_false_iff_ne.mpr c
      have xn := hx.no (st ++ g)
      have two : ∀ b, eqO (st ++ g) x aNo = some b → F_called [.ref 4, th 17, .tup [th (v.i : Nat), x]] (st ++ g) = some (goA v.s b (isNon v.fr) (th (v.i : Nat)) x, st ++ g) := fun b hb => call_go2 w1 h1.i h1.r h1.s hb
      have kk := kn_go w1
      refine ⟨goA v.s (isNoP x) (isNon v.fr) (th (v.i : Nat)) x, [], none, ?_⟩
      have fin : (goA v.s (isNoP x) (isNon v.fr) (th (v.i : Nat)) x = .tup [.str [103, 111], th (v.i : Nat), x] ∨ goA v.s (isNoP x) (isNon v.fr) (th (v.i : Nat)) x = .tup [.str [103, 111], th (v.i : Nat), aNo] ∨ ∃ t r, goA v.s (isNoP x) (isNon v.fr) (th (v.i : Nat)) x = .tup (.str t :: r) ∧ t ≠ [103, 111]) := by
        rcases goA_cases v.s (isNoP x) (isNon v.fr) (th (v.i : Nat)) x with z | z
        · exact .inl z
        · exact .inr (.inr z)
      have lg := lgo_is h1 hx
      cases hb : isNoP x with
      | false =>
        rw [hb] at xn lg fin
        exact ⟨some (.tup [th (v.i : Nat), x]), fin, by simp only [eVar_at, kVar_some, eC_at, eBin_at, k2_some, k3_some, eUn_at, k1_some, kVal_some, kBl_some, kEq_at, kBlN_some, kNe_at, kIn_at, kNotIn_at, kIx_at, ixO_tup, kLt_int, kLe_int, kGt_int, kGe_int, kLt_str, kLe_str, kGt_str, kGe_str, kIs_non, kIs_bl, kIs_int, kIs_str, kIs_tup, kIs_ref, kIsNot_non, kIsNot_bl, kIsNot_int, kIsNot_str, kIsNot_tup, kIsNot_ref, opAdd_int, opAdd_str, opSub_int, opMul_int, opDiv_int, opMod_int, opPow_int, opAnd_int, opOr_int, opNeg_int, eChain_at, kc1_some, kc2_some, kc3_true, kc3_false, kc4_some, tOf_at, kTru_some, kTru2_some, truD_non, truD_bl, truD_int, truD_tup, tAnd_at, kAnd_true, kAnd_false, tOr_at, kOr_true, kOr_false, tNot_at, kNot_some, tYes_at, eAnd_at, keAnd_some, keAnd2_true, keAnd2_false, eOr_at, keOr_some, keOr2_true, keOr2_false, eNot_at, keNot_some, keNot2_some, eIf_at, keIf_true, keIf_false, aNil_at, aCons_at, ka1_some, ka2_some, eTup_at, kTup_0, kTup_1, kTup_2, kTup_3, kTup_4, kTup_5, kTup_6, eLst_at, kLst_0, kLst_1, kLst_2, kLst_3, kLst_4, eDic0_at, eCall_at, kCall_some, o1_at, isiO_at, kIsi_some, tyD_non, tyD_bl, tyD_int, tyD_str, tyD_tup, eBM_at, kbm1_some, kbm2_some, eSl_at, ks2_some, ks3_some, ks4_some, oNone_at, oSome_at, kSome_int, slO_str, sSeq_at, kSeq_nx, kSeq_rt, kSeq_bk, kSeq_ct, sNext_at, sBreak_at, sCont_at, sRetN_at, sRet_at, kRet_some, sExpr_at, kExpr_some, sSet_at, kSet_some, sIf_at, kIf_true, kIf_false, sPar2_k, kPar2_some, sPar3_k, kPar3_some, sAsg_at, kAsg_some, kAsg2_some, mName_at, mTup_2, mTup_3, mCons_at, kmCons_some, mNil_at, sPut_at, kp1_some, kp2_some, kp3_some, kp4_some, kFn_rt, kFn_nx, mkFn_0, mkFn_1, mkFn_2, mkFn_3, mkFn_4, mkFn_5, sWhile_at, List.getElem?_cons_zero, List.getElem?_cons_succ, List.set_cons_zero, List.set_cons_succ, List.replicate_succ, List.replicate_zero, Nat.reduceSub, Bool.not_true, Bool.not_false, ite_true, ite_false, if_true, if_false, reduceCtorEq, fldM_at, sFldM_at, kSF1_some, kSF2_some, kSF3_some, sFldAddM_at, kSA1_some, kSA2_int, eMake_at, kMk1_some, kMk2_some, isCM_at, isCO_non, eGet1_at, kG12_some, kG13_some, eGet2_at, kG22_some, kG23_some, eCallD_at, kCallD_some, eKdx_at, kKdx_some, kIsB_at, atI0, atI1, eq_str, ixO_tup, lenO_tup, mTup_2, eqO_int, List.cons.injEq, Nat.reduceEqDiff, decide_false, decide_true, and_false, and_true, false_and, true_and, Bool.or_false, Bool.or_true, Bool.true_or, Bool.false_or, Bool.and_true, Bool.and_false, Bool.false_and, Bool.true_and, Int.reduceLE, Int.reduceLT, cDv_2, cMd_2, gDv_2, gMd_2, cDv_3, cMd_3, gDv_3, gMd_3, cDv_4, cMd_4, gDv_4, gMd_4, cDv_5, cMd_5, gDv_5, gMd_5, cDv_7, cMd_7, gDv_7, gMd_7, cDv_8, cMd_8, gDv_8, gMd_8, cDv_9, cMd_9, gDv_9, gMd_9, cDv_12, cMd_12, gDv_12, gMd_12, cDv_16, cMd_16, gDv_16, gMd_16, cDv_28, cMd_28, gDv_28, gMd_28, cDv_140, cMd_140, gDv_140, gMd_140, cDv_900, cMd_900, gDv_900, gMd_900, c', ig, xn, two _ xn, kk, lg, List.append_nil]⟩
      | true =>
        rw [hb] at xn lg fin
        by_cases c2 : n / 8 % 2 = 1
        · have c2' : (n / 8 % 2 == 1) = true := beq_iff_eq.mpr c2
          exact ⟨some (.tup [th (v.i : Nat), x]), fin, by simp only [eVar_at, kVar_some, eC_at, eBin_at, k2_some, k3_some, eUn_at, k1_some, kVal_some, kBl_some, kEq_at, kBlN_some, kNe_at, kIn_at, kNotIn_at, kIx_at, ixO_tup, kLt_int, kLe_int, kGt_int, kGe_int, kLt_str, kLe_str, kGt_str, kGe_str, kIs_non, kIs_bl, kIs_int, kIs_str, kIs_tup, kIs_ref, kIsNot_non, kIsNot_bl, kIsNot_int, kIsNot_str, kIsNot_tup, kIsNot_ref, opAdd_int, opAdd_str, opSub_int, opMul_int, opDiv_int, opMod_int, opPow_int, opAnd_int, opOr_int, opNeg_int, eChain_at, kc1_some, kc2_some, kc3_true, kc3_false, kc4_some, tOf_at, kTru_some, kTru2_some, truD_non, truD_bl, truD_int, truD_tup, tAnd_at, kAnd_true, kAnd_false, tOr_at, kOr_true, kOr_false, tNot_at, kNot_some, tYes_at, eAnd_at, keAnd_some, keAnd2_true, keAnd2_false, eOr_at, keOr_some, keOr2_true, keOr2_false, eNot_at, keNot_some, keNot2_some, eIf_at, keIf_true, keIf_false, aNil_at, aCons_at, ka1_some, ka2_some, eTup_at, kTup_0, kTup_1, kTup_2, kTup_3, kTup_4, kTup_5, kTup_6, eLst_at, kLst_0, kLst_1, kLst_2, kLst_3, kLst_4, eDic0_at, eCall_at, kCall_some, o1_at, isiO_at, kIsi_some, tyD_non, tyD_bl, tyD_int, tyD_str, tyD_tup, eBM_at, kbm1_some, kbm2_some, eSl_at, ks2_some, ks3_some, ks4_some, oNone_at, oSome_at, kSome_int, slO_str, sSeq_at, kSeq_nx, kSeq_rt, kSeq_bk, kSeq_ct, sNext_at, sBreak_at, sCont_at, sRetN_at, sRet_at, kRet_some, sExpr_at, kExpr_some, sSet_at, kSet_some, sIf_at, kIf_true, kIf_false, sPar2_k, kPar2_some, sPar3_k, kPar3_some, sAsg_at, kAsg_some, kAsg2_some, mName_at, mTup_2, mTup_3, mCons_at, kmCons_some, mNil_at, sPut_at, kp1_some, kp2_some, kp3_some, kp4_some, kFn_rt, kFn_nx, mkFn_0, mkFn_1, mkFn_2, mkFn_3, mkFn_4, mkFn_5, sWhile_at, List.getElem?_cons_zero, List.getElem?_cons_succ, List.set_cons_zero, List.set_cons_succ, List.replicate_succ, List.replicate_zero, Nat.reduceSub, Bool.not_true, Bool.not_false, ite_true, ite_false, if_true, if_false, reduceCtorEq, fldM_at, sFldM_at, kSF1_some, kSF2_some, kSF3_some, sFldAddM_at, kSA1_some, kSA2_int, eMake_at, kMk1_some, kMk2_some, isCM_at, isCO_non, eGet1_at, kG12_some, kG13_some, eGet2_at, kG22_some, kG23_some, eCallD_at, kCallD_some, eKdx_at, kKdx_some, kIsB_at, atI0, atI1, eq_str, ixO_tup, lenO_tup, mTup_2, eqO_int, List.cons.injEq, Nat.reduceEqDiff, decide_false, decide_true, and_false, and_true, false_and, true_and, Bool.or_false, Bool.or_true, Bool.true_or, Bool.false_or, Bool.and_true, Bool.and_false, Bool.false_and, Bool.true_and, Int.reduceLE, Int.reduceLT, cDv_2, cMd_2, gDv_2, gMd_2, cDv_3, cMd_3, gDv_3, gMd_3, cDv_4, cMd_4, gDv_4, gMd_4, cDv_5, cMd_5, gDv_5, gMd_5, cDv_7, cMd_7, gDv_7, gMd_7, cDv_8, cMd_8, gDv_8, gMd_8, cDv_9, cMd_9, gDv_9, gMd_9, cDv_12, cMd_12, gDv_12, gMd_12, cDv_16, cMd_16, gDv_16, gMd_16, cDv_28, cMd_28, gDv_28, gMd_28, cDv_140, cMd_140, gDv_140, gMd_140, cDv_900, cMd_900, gDv_900, gMd_900, c', c2', ig, xn, two _ xn, kk, lg, List.append_nil]⟩
        · have c2' : (n / 8 % 2 == 1) = false := beq_eq_false_iff_ne.mpr c2
          have hxn : x = aNo := by
            cases hx <;> first | rfl | cases hb
          have one := call_go1 w1 h1.i h1.r h1.s
          rw [hxn] at xn lg fin ⊢
          exact ⟨some (.tup [th (v.i : Nat)]), fin, by simp only [eVar_at, kVar_some, eC_at, eBin_at, k2_some, k3_some, eUn_at, k1_some, kVal_some, kBl_some, kEq_at, kBlN_some, kNe_at, kIn_at, kNotIn_at, kIx_at, ixO_tup, kLt_int, kLe_int, kGt_int, kGe_int, kLt_str, kLe_str, kGt_str, kGe_str, kIs_non, kIs_bl, kIs_int, kIs_str, kIs_tup, kIs_ref, kIsNot_non, kIsNot_bl, kIsNot_int, kIsNot_str, kIsNot_tup, kIsNot_ref, opAdd_int, opAdd_str, opSub_int, opMul_int, opDiv_int, opMod_int, opPow_int, opAnd_int, opOr_int, opNeg_int, eChain_at, kc1_some, kc2_some, kc3_true, kc3_false, kc4_some, tOf_at, kTru_some, kTru2_some, truD_non, truD_bl, truD_int, truD_tup, tAnd_at, kAnd_true, kAnd_false, tOr_at, kOr_true, kOr_false, tNot_at, kNot_some, tYes_at, eAnd_at, keAnd_some, keAnd2_true, keAnd2_false, eOr_at, keOr_some, keOr2_true, keOr2_false, eNot_at, keNot_some, keNot2_some, eIf_at, keIf_true, keIf_false, aNil_at, aCons_at, ka1_some, ka2_some, eTup_at, kTup_0, kTup_1, kTup_2, kTup_3, kTup_4, kTup_5, kTup_6, eLst_at, kLst_0, kLst_1, kLst_2, kLst_3, kLst_4, eDic0_at, eCall_at, kCall_some, o1_at, isiO_at, kIsi_some, tyD_non, tyD_bl, tyD_int, tyD_str, tyD_tup, eBM_at, kbm1_some, kbm2_some, eSl_at, ks2_some, ks3_some, ks4_some, oNone_at, oSome_at, kSome_int, slO_str, sSeq_at, kSeq_nx, kSeq_rt, kSeq_bk, kSeq_ct, sNext_at, sBreak_at, sCont_at, sRetN_at, sRet_at, kRet_some, sExpr_at, kExpr_some, sSet_at, kSet_some, sIf_at, kIf_true, kIf_false, sPar2_k, kPar2_some, sPar3_k, kPar3_some, sAsg_at, kAsg_some, kAsg2_some, mName_at, mTup_2, mTup_3, mCons_at, kmCons_some, mNil_at, sPut_at, kp1_some, kp2_some, kp3_some, kp4_some, kFn_rt, kFn_nx, mkFn_0, mkFn_1, mkFn_2, mkFn_3, mkFn_4, mkFn_5, sWhile_at, List.getElem?_cons_zero, List.getElem?_cons_succ, List.set_cons_zero, List.set_cons_succ, List.replicate_succ, List.replicate_zero, Nat.reduceSub, Bool.not_true, Bool.not_false, ite_true, ite_false, if_true, if_false, reduceCtorEq, fldM_at, sFldM_at, kSF1_some, kSF2_some, kSF3_some, sFldAddM_at, kSA1_some, kSA2_int, eMake_at, kMk1_some, kMk2_some, isCM_at, isCO_non, eGet1_at, kG12_some, kG13_some, eGet2_at, kG22_some, kG23_some, eCallD_at, kCallD_some, eKdx_at, kKdx_some, kIsB_at, atI0, atI1, eq_str, ixO_tup, lenO_tup, mTup_2, eqO_int, List.cons.injEq, Nat.reduceEqDiff, decide_false, decide_true, and_false, and_true, false_and, true_and, Bool.or_false, Bool.or_true, Bool.true_or, Bool.false_or, Bool.and_true, Bool.and_false, Bool.false_and, Bool.true_and, Int.reduceLE, Int.reduceLT, cDv_2, cMd_2, gDv_2, gMd_2, cDv_3, cMd_3, gDv_3, gMd_3, cDv_4, cMd_4, gDv_4, gMd_4, cDv_5, cMd_5, gDv_5, gMd_5, cDv_7, cMd_7, gDv_7, gMd_7, cDv_8, cMd_8, gDv_8, gMd_8, cDv_9, cMd_9, gDv_9, gMd_9, cDv_12, cMd_12, gDv_12, gMd_12, cDv_16, cMd_16, gDv_16, gMd_16, cDv_28, cMd_28, gDv_28, gMd_28, cDv_140, cMd_140, gDv_140, gMd_140, cDv_900, cMd_900, gDv_900, gMd_900, c', c2', ig, xn, one, kk, lg, List.append_nil]⟩
  obtain ⟨F, g2, x5, x7, hF, e1⟩ := s1
  have w2 : Wd ths (st ++ g ++ g2) := w1.grow
  have h2 := h1.more g2
  rcases hF with rfl | rfl | ⟨t, r, rfl, ht⟩
  · obtain ⟨ρ, st', e4, R⟩ := goc_go w2 h2 n h0 (some x) x5 x7 (r := [th (v.i : Nat), x])
    exact ⟨st', by simp only [F_l_goes_on, go_eq, eVar_at, kVar_some, eC_at, eBin_at, k2_some, k3_some, eUn_at, k1_some, kVal_some, kBl_some, kEq_at, kBlN_some, kNe_at, kIn_at, kNotIn_at, kIx_at, ixO_tup, kLt_int, kLe_int, kGt_int, kGe_int, kLt_str, kLe_str, kGt_str, kGe_str, kIs_non, kIs_bl, kIs_int, kIs_str, kIs_tup, kIs_ref, kIsNot_non, kIsNot_bl, kIsNot_int, kIsNot_str, kIsNot_tup, kIsNot_ref, opAdd_int, opAdd_str, opSub_int, opMul_int, opDiv_int, opMod_int, opPow_int, opAnd_int, opOr_int, opNeg_int, eChain_at, kc1_some, kc2_some, kc3_true, kc3_false, kc4_some, tOf_at, kTru_some, kTru2_some, truD_non, truD_bl, truD_int, truD_tup, tAnd_at, kAnd_true, kAnd_false, tOr_at, kOr_true, kOr_false, tNot_at, kNot_some, tYes_at, eAnd_at, keAnd_some, keAnd2_true, keAnd2_false, eOr_at, keOr_some, keOr2_true, keOr2_false, eNot_at, keNot_some, keNot2_some, eIf_at, keIf_true, keIf_false, aNil_at, aCons_at, ka1_some, ka2_some, eTup_at, kTup_0, kTup_1, kTup_2, kTup_3, kTup_4, kTup_5, kTup_6, eLst_at, kLst_0, kLst_1, kLst_2, kLst_3, kLst_4, eDic0_at, eCall_at, kCall_some, o1_at, isiO_at, kIsi_some, tyD_non, tyD_bl, tyD_int, tyD_str, tyD_tup, eBM_at, kbm1_some, kbm2_some, eSl_at, ks2_some, ks3_some, ks4_some, oNone_at, oSome_at, kSome_int, slO_str, sSeq_at, kSeq_nx, kSeq_rt, kSeq_bk, kSeq_ct, sNext_at, sBreak_at, sCont_at, sRetN_at, sRet_at, kRet_some, sExpr_at, kExpr_some, sSet_at, kSet_some, sIf_at, kIf_true, kIf_false, sPar2_k, kPar2_some, sPar3_k, kPar3_some, sAsg_at, kAsg_some, kAsg2_some, mName_at, mTup_2, mTup_3, mCons_at, kmCons_some, mNil_at, sPut_at, kp1_some, kp2_some, kp3_some, kp4_some, kFn_rt, kFn_nx, mkFn_0, mkFn_1, mkFn_2, mkFn_3, mkFn_4, mkFn_5, sWhile_at, List.getElem?_cons_zero, List.getElem?_cons_succ, List.set_cons_zero, List.set_cons_succ, List.replicate_succ, List.replicate_zero, Nat.reduceSub, Bool.not_true, Bool.not_false, ite_true, ite_false, if_true, if_false, reduceCtorEq, fldM_at, sFldM_at, kSF1_some, kSF2_some, kSF3_some, sFldAddM_at, kSA1_some, kSA2_int, eMake_at, kMk1_some, kMk2_some, isCM_at, isCO_non, eGet1_at, kG12_some, kG13_some, eGet2_at, kG22_some, kG23_some, eCallD_at, kCallD_some, eKdx_at, kKdx_some, kIsB_at, atI0, atI1, eq_str, ixO_tup, lenO_tup, mTup_2, eqO_int, List.cons.injEq, Nat.reduceEqDiff, decide_false, decide_true, and_false, and_true, false_and, true_and, Bool.or_false, Bool.or_true, Bool.true_or, Bool.false_or, Bool.and_true, Bool.and_false, Bool.false_and, Bool.true_and, Int.reduceLE, Int.reduceLT, cDv_2, cMd_2, gDv_2, gMd_2, cDv_3, cMd_3, gDv_3, gMd_3, cDv_4, cMd_4, gDv_4, gMd_4, cDv_5, cMd_5, gDv_5, gMd_5, cDv_7, cMd_7, gDv_7, gMd_7, cDv_8, cMd_8, gDv_8, gMd_8, cDv_9, cMd_9, gDv_9, gMd_9, cDv_12, cMd_12, gDv_12, gMd_12, cDv_16, cMd_16, gDv_16, gMd_16, cDv_28, cMd_28, gDv_28, gMd_28, cDv_140, cMd_140, gDv_140, gMd_140, cDv_900, cMd_900, gDv_900, gMd_900, e3, e1, e4, -sIf_at, -eIf_at], R.after.after⟩
  · obtain ⟨ρ, st', e4, R⟩ := goc_go w2 h2 n h0 (some x) x5 x7 (r := [th (v.i : Nat), aNo])
    exact ⟨st', by simp only [F_l_goes_on, go_eq, eVar_at, kVar_some, eC_at, eBin_at, k2_some, k3_some, eUn_at, k1_some, kVal_some, kBl_some, kEq_at, kBlN_some, kNe_at, kIn_at, kNotIn_at, kIx_at, ixO_tup, kLt_int, kLe_int, kGt_int, kGe_int, kLt_str, kLe_str, kGt_str, kGe_str, kIs_non, kIs_bl, kIs_int, kIs_str, kIs_tup, kIs_ref, kIsNot_non, kIsNot_bl, kIsNot_int, kIsNot_str, kIsNot_tup, kIsNot_ref, opAdd_int, opAdd_str, opSub_int, opMul_int, opDiv_int, opMod_int, opPow_int, opAnd_int, opOr_int, opNeg_int, eChain_at, kc1_some, kc2_some, kc3_true, kc3_false, kc4_some, tOf_at, kTru_some, kTru2_some, truD_non, truD_bl, truD_int, truD_tup, tAnd_at, kAnd_true, kAnd_false, tOr_at, kOr_true, kOr_false, tNot_at, kNot_some, tYes_at, eAnd_at, keAnd_some, keAnd2_true, keAnd2_false, eOr_at, keOr_some, keOr2_true, keOr2_false, eNot_at, keNot_some, keNot2_some, eIf_at, keIf_true, keIf_false, aNil_at, aCons_at, ka1_some, ka2_some, eTup_at, kTup_0, kTup_1, kTup_2, kTup_3, kTup_4, kTup_5, kTup_6, eLst_at, kLst_0, kLst_1, kLst_2, kLst_3, kLst_4, eDic0_at, eCall_at, kCall_some, o1_at, isiO_at, kIsi_some, tyD_non, tyD_bl, tyD_int, tyD_str, tyD_tup, eBM_at, kbm1_some, kbm2_some, eSl_at, ks2_some, ks3_some, ks4_some, oNone_at, oSome_at, kSome_int, slO_str, sSeq_at, kSeq_nx, kSeq_rt, kSeq_bk, kSeq_ct, sNext_at, sBreak_at, sCont_at, sRetN_at, sRet_at, kRet_some, sExpr_at, kExpr_some, sSet_at, kSet_some, sIf_at, kIf_true, kIf_false, sPar2_k, kPar2_some, sPar3_k, kPar3_some, sAsg_at, kAsg_some, kAsg2_some, mName_at, mTup_2, mTup_3, mCons_at, kmCons_some, mNil_at, sPut_at, kp1_some, kp2_some, kp3_some, kp4_some, kFn_rt, kFn_nx, mkFn_0, mkFn_1, mkFn_2, mkFn_3, mkFn_4, mkFn_5, sWhile_at, List.getElem?_cons_zero, List.getElem?_cons_succ, List.set_cons_zero, List.set_cons_succ, List.replicate_succ, List.replicate_zero, Nat.reduceSub, Bool.not_true, Bool.not_false, ite_true, ite_false, if_true, if_false, reduceCtorEq, fldM_at, sFldM_at, kSF1_some, kSF2_some, kSF3_some, sFldAddM_at, kSA1_some, kSA2_int, eMake_at, kMk1_some, kMk2_some, isCM_at, isCO_non, eGet1_at, kG12_some, kG13_some, eGet2_at, kG22_some, kG23_some, eCallD_at, kCallD_some, eKdx_at, kKdx_some, kIsB_at, atI0, atI1, eq_str, ixO_tup, lenO_tup, mTup_2, eqO_int, List.cons.injEq, Nat.reduceEqDiff, decide_false, decide_true, and_false, and_true, false_and, true_and, Bool.or_false, Bool.or_true, Bool.true_or, Bool.false_or, Bool.and_true, Bool.and_false, Bool.false_and, Bool.true_and, Int.reduceLE, Int.reduceLT, cDv_2, cMd_2, gDv_2, gMd_2, cDv_3, cMd_3, gDv_3, gMd_3, cDv_4, cMd_4, gDv_4, gMd_4, cDv_5, cMd_5, gDv_5, gMd_5, cDv_7, cMd_7, gDv_7, gMd_7, cDv_8, cMd_8, gDv_8, gMd_8, cDv_9, cMd_9, gDv_9, gMd_9, cDv_12, cMd_12, gDv_12, gMd_12, cDv_16, cMd_16, gDv_16, gMd_16, cDv_28, cMd_28, gDv_28, gMd_28, cDv_140, cMd_140, gDv_140, gMd_140, cDv_900, cMd_900, gDv_900, gMd_900, e3, e1, e4, -sIf_at, -eIf_at], R.after.after⟩
  · obtain ⟨ρ, e4⟩ := goc_no h2 n (some x) x5 x7 (r := r) ht
    exact ⟨_, by simp only [F_l_goes_on, go_eq, eVar_at, kVar_some, eC_at, eBin_at, k2_some, k3_some, eUn_at, k1_some, kVal_some, kBl_some, kEq_at, kBlN_some, kNe_at, kIn_at, kNotIn_at, kIx_at, ixO_tup, kLt_int, kLe_int, kGt_int, kGe_int, kLt_str, kLe_str, kGt_str, kGe_str, kIs_non, kIs_bl, kIs_int, kIs_str, kIs_tup, kIs_ref, kIsNot_non, kIsNot_bl, kIsNot_int, kIsNot_str, kIsNot_tup, kIsNot_ref, opAdd_int, opAdd_str, opSub_int, opMul_int, opDiv_int, opMod_int, opPow_int, opAnd_int, opOr_int, opNeg_int, eChain_at, kc1_some, kc2_some, kc3_true, kc3_false, kc4_some, tOf_at, kTru_some, kTru2_some, truD_non, truD_bl, truD_int, truD_tup, tAnd_at, kAnd_true, kAnd_false, tOr_at, kOr_true, kOr_false, tNot_at, kNot_some, tYes_at, eAnd_at, keAnd_some, keAnd2_true, keAnd2_false, eOr_at, keOr_some, keOr2_true, keOr2_false, eNot_at, keNot_some, keNot2_some, eIf_at, keIf_true, keIf_false, aNil_at, aCons_at, ka1_some, ka2_some, eTup_at, kTup_0, kTup_1, kTup_2, kTup_3, kTup_4, kTup_5, kTup_6, eLst_at, kLst_0, kLst_1, kLst_2, kLst_3, kLst_4, eDic0_at, eCall_at, kCall_some, o1_at, isiO_at, kIsi_some, tyD_non, tyD_bl, tyD_int, tyD_str, tyD_tup, eBM_at, kbm1_some, kbm2_some, eSl_at, ks2_some, ks3_some, ks4_some, oNone_at, oSome_at, kSome_int, slO_str, sSeq_at, kSeq_nx, kSeq_rt, kSeq_bk, kSeq_ct, sNext_at, sBreak_at, sCont_at, sRetN_at, sRet_at, kRet_some, sExpr_at, kExpr_some, sSet_at, kSet_some, sIf_at, kIf_true, kIf_false, sPar2_k, kPar2_some, sPar3_k, kPar3_some, sAsg_at, kAsg_some, kAsg2_some, mName_at, mTup_2, mTup_3, mCons_at, kmCons_some, mNil_at, sPut_at, kp1_some, kp2_some, kp3_some, kp4_some, kFn_rt, kFn_nx, mkFn_0, mkFn_1, mkFn_2, mkFn_3, mkFn_4, mkFn_5, sWhile_at, List.getElem?_cons_zero, List.getElem?_cons_succ, List.set_cons_zero, List.set_cons_succ, List.replicate_succ, List.replicate_zero, Nat.reduceSub, Bool.not_true, Bool.not_false, ite_true, ite_false, if_true, if_false, reduceCtorEq, fldM_at, sFldM_at, kSF1_some, kSF2_some, kSF3_some, sFldAddM_at, kSA1_some, kSA2_int, eMake_at, kMk1_some, kMk2_some, isCM_at, isCO_non, eGet1_at, kG12_some, kG13_some, eGet2_at, kG22_some, kG23_some, eCallD_at, kCallD_some, eKdx_at, kKdx_some, kIsB_at, atI0, atI1, eq_str, ixO_tup, lenO_tup, mTup_2, eqO_int, List.cons.injEq, Nat.reduceEqDiff, decide_false, decide_true, and_false, and_true, false_and, true_and, Bool.or_false, Bool.or_true, Bool.true_or, Bool.false_or, Bool.and_true, Bool.and_false, Bool.false_and, Bool.true_and, Int.reduceLE, Int.reduceLT, cDv_2, cMd_2, gDv_2, gMd_2, cDv_3, cMd_3, gDv_3, gMd_3, cDv_4, cMd_4, gDv_4, gMd_4, cDv_5, cMd_5, gDv_5, gMd_5, cDv_7, cMd_7, gDv_7, gMd_7, cDv_8, cMd_8, gDv_8, gMd_8, cDv_9, cMd_9, gDv_9, gMd_9, cDv_12, cMd_12, gDv_12, gMd_12, cDv_16, cMd_16, gDv_16, gMd_16, cDv_28, cMd_28, gDv_28, gMd_28, cDv_140, cMd_140, gDv_140, gMd_140, cDv_900, cMd_900, gDv_900, gMd_900, e3, e1, e4, -sIf_at, -eIf_at], (Res.stay w1 h1 g2).after⟩
end
end Math

set_option maxRecDepth 100000
set_option maxHeartbeats 4000000
namespace Math
open MP Text PySem
theorem opAdd_refs {st : Sto} {k n : Nat} {l m : List D} (h1 : myL st k = some l) (h2 : myL st n = some m) (hl : l.length + m.length ≤ 1000) : opAdd (.ref k) (.ref n) st = some (.ref st.length, st ++ [.lst (l ++ m)]) := by
  have h3 : l.length + m.length ≤ LIM := by
    unfold LIM
    omega
  simp only [opAdd, h1, h2, h3, if_true]
theorem app_is {st : Sto} {k : Nat} {l : List D} {x : D} (h1 : myL st k = some l) (hl : l.length ≤ 1000) : appM (.ref k) [x] st = some (.non, st.set k (.lst (l ++ [x]))) := by
  have h3 : l.length < LIM := by
    unfold LIM
    omega
  simp only [appM, h1, h3, if_true]
theorem myL_end1 {st g : Sto} {l : List D} : myL (st ++ [.lst l] ++ g) st.length = some l := by
  rw [List.append_assoc]
  exact myL_end st l g
section
variable {ths : List Nat} {st : Sto} {v : Gv}
theorem lwrong_is (w : Wd ths st) (h : GvOk ths st v) {j q : Nat} {k : Int} {f : D} (hj : ths[j]? = some q) (hq : st[q]? = some (recF k f)) (n : Int) (h0 : 0 ≤ n) : ∃ st', F_l_wrong [.ref 4, .int n, .ref v.d, th (j : Nat)] st = some (.bl true, st') ∧ Res ths st v st' := by
  have ig := h.ix_giver
  have r0 : 0 ≤ n % 12 := by omega
  have r1 : n % 12 < 12 := by omega
  obtain ⟨x, hx, e⟩ := atI_in (xs := L12 (th (v.i : Nat)) (th (j : Nat))) r0 (by simpa [L12] using r1)
  have a1 : opAdd (.ref st.length) (.ref (st ++ [Ob.lst [D.tup [.str [103, 111], .tup []], .tup [.str [103, 111], .tup [th (v.i : Nat), th (v.i : Nat), th (v.i : Nat)]], .tup [.str [103, 111], .tup [th (j : Nat)]], .tup [.str [116, 104, 114, 111, 119], .tup [th (v.i : Nat)]], .tup [.str [116, 104, 114, 111, 119], .tup [th (v.i : Nat), th (v.i : Nat)]]]]).length) (st ++ [Ob.lst [D.tup [.str [103, 111], .tup []], .tup [.str [103, 111], .tup [th (v.i : Nat), th (v.i : Nat), th (v.i : Nat)]], .tup [.str [103, 111], .tup [th (j : Nat)]], .tup [.str [116, 104, 114, 111, 119], .tup [th (v.i : Nat)]], .tup [.str [116, 104, 114, 111, 119], .tup [th (v.i : Nat), th (v.i : Nat)]]]] ++ [Ob.lst [D.tup [.str [116, 104, 114, 111, 119], .tup [th (j : Nat), th (j : Nat)]], .tup [.str [115, 104, 117, 116], .tup []], .tup [.str [115, 104, 117, 116], .tup [th (v.i : Nat), th (v.i : Nat)]], .tup [.str [115, 104, 117, 116], .tup [th (j : Nat)]]]]) = some (.ref (st ++ [Ob.lst [D.tup [.str [103, 111], .tup []], .tup [.str [103, 111], .tup [th (v.i : Nat), th (v.i : Nat), th (v.i : Nat)]], .tup [.str [103, 111], .tup [th (j : Nat)]], .tup [.str [116, 104, 114, 111, 119], .tup [th (v.i : Nat)]], .tup [.str [116, 104, 114, 111, 119], .tup [th (v.i : Nat), th (v.i : Nat)]]]] ++ [Ob.lst [D.tup [.str [116, 104, 114, 111, 119], .tup [th (j : Nat), th (j : Nat)]], .tup [.str [115, 104, 117, 116], .tup []], .tup [.str [115, 104, 117, 116], .tup [th (v.i : Nat), th (v.i : Nat)]], .tup [.str [115, 104, 117, 116], .tup [th (j : Nat)]]]]).length, (st ++ [Ob.lst [D.tup [.str [103, 111], .tup []], .tup [.str [103, 111], .tup [th (v.i : Nat), th (v.i : Nat), th (v.i : Nat)]], .tup [.str [103, 111], .tup [th (j : Nat)]], .tup [.str [116, 104, 114, 111, 119], .tup [th (v.i : Nat)]], .tup [.str [116, 104, 114, 111, 119], .tup [th (v.i : Nat), th (v.i : Nat)]]]] ++ [Ob.lst [D.tup [.str [116, 104, 114, 111, 119], .tup [th (j : Nat), th (j : Nat)]], .tup [.str [115, 104, 117, 116], .tup []], .tup [.str [115, 104, 117, 116], .tup [th (v.i : Nat), th (v.i : Nat)]], .tup [.str [115, 104, 117, 116], .tup [th (j : Nat)]]]] ++ [Ob.lst ([D.tup [.str [103, 111], .tup []], .tup [.str [103, 111], .tup [th (v.i : Nat), th (v.i : Nat), th (v.i : Nat)]], .tup [.str [103, 111], .tup [th (j : Nat)]], .tup [.str [116, 104, 114, 111, 119], .tup [th (v.i : Nat)]], .tup [.str [116, 104, 114, 111, 119], .tup [th (v.i : Nat), th (v.i : Nat)]]] ++ [D.tup [.str [116, 104, 114, 111, 119], .tup [th (j : Nat), th (j : Nat)]], .tup [.str [115, 104, 117, 116], .tup []], .tup [.str [115, 104, 117, 116], .tup [th (v.i : Nat), th (v.i : Nat)]], .tup [.str [115, 104, 117, 116], .tup [th (j : Nat)]]])])) := opAdd_refs myL_end1 (myL_end _ _ []) (by simp)
  have a2 : opAdd (.ref (st ++ [Ob.lst [D.tup [.str [103, 111], .tup []], .tup [.str [103, 111], .tup [th (v.i : Nat), th (v.i : Nat), th (v.i : Nat)]], .tup [.str [103, 111], .tup [th (j : Nat)]], .tup [.str [116, 104, 114, 111, 119], .tup [th (v.i : Nat)]], .tup [.str [116, 104, 114, 111, 119], .tup [th (v.i : Nat), th (v.i : Nat)]]]] ++ [Ob.lst [D.tup [.str [116, 104, 114, 111, 119], .tup [th (j : Nat), th (j : Nat)]], .tup [.str [115, 104, 117, 116], .tup []], .tup [.str [115, 104, 117, 116], .tup [th (v.i : Nat), th (v.i : Nat)]], .tup [.str [115, 104, 117, 116], .tup [th (j : Nat)]]]]).length) (.ref (st ++ [Ob.lst [D.tup [.str [103, 111], .tup []], .tup [.str [103, 111], .tup [th (v.i : Nat), th (v.i : Nat), th (v.i : Nat)]], .tup [.str [103, 111], .tup [th (j : Nat)]], .tup [.str [116, 104, 114, 111, 119], .tup [th (v.i : Nat)]], .tup [.str [116, 104, 114, 111, 119], .tup [th (v.i : Nat), th (v.i : Nat)]]]] ++ [Ob.lst [D.tup [.str [116, 104, 114, 111, 119], .tup [th (j : Nat), th (j : Nat)]], .tup [.str [115, 104, 117, 116], .tup []], .tup [.str [115, 104, 117, 116], .tup [th (v.i : Nat), th (v.i : Nat)]], .tup [.str [115, 104, 117, 116], .tup [th (j : Nat)]]]] ++ [Ob.lst ([D.tup [.str [103, 111], .tup []], .tup [.str [103, 111], .tup [th (v.i : Nat), th (v.i : Nat), th (v.i : Nat)]], .tup [.str [103, 111], .tup [th (j : Nat)]], .tup [.str [116, 104, 114, 111, 119], .tup [th (v.i : Nat)]], .tup [.str [116, 104, 114, 111, 119], .tup [th (v.i : Nat), th (v.i : Nat)]]] ++ [D.tup [.str [116, 104, 114, 111, 119], .tup [th (j : Nat), th (j : Nat)]], .tup [.str [115, 104, 117, 116], .tup []], .tup [.str [115, 104, 117, 116], .tup [th (v.i : Nat), th (v.i : Nat)]], .tup [.str [115, 104, 117, 116], .tup [th (j : Nat)]]])]).length) (st ++ [Ob.lst [D.tup [.str [103, 111], .tup []], .tup [.str [103, 111], .tup [th (v.i : Nat), th (v.i : Nat), th (v.i : Nat)]], .tup [.str [103, 111], .tup [th (j : Nat)]], .tup [.str [116, 104, 114, 111, 119], .tup [th (v.i : Nat)]], .tup [.str [116, 104, 114, 111, 119], .tup [th (v.i : Nat), th (v.i : Nat)]]]] ++ [Ob.lst [D.tup [.str [116, 104, 114, 111, 119], .tup [th (j : Nat), th (j : Nat)]], .tup [.str [115, 104, 117, 116], .tup []], .tup [.str [115, 104, 117, 116], .tup [th (v.i : Nat), th (v.i : Nat)]], .tup [.str [115, 104, 117, 116], .tup [th (j : Nat)]]]] ++ [Ob.lst ([D.tup [.str [103, 111], .tup []], .tup [.str [103, 111], .tup [th (v.i : Nat), th (v.i : Nat), th (v.i : Nat)]], .tup [.str [103, 111], .tup [th (j : Nat)]], .tup [.str [116, 104, 114, 111, 119], .tup [th (v.i : Nat)]], .tup [.str [116, 104, 114, 111, 119], .tup [th (v.i : Nat), th (v.i : Nat)]]] ++ [D.tup [.str [116, 104, 114, 111, 119], .tup [th (j : Nat), th (j : Nat)]], .tup [.str [115, 104, 117, 116], .tup []], .tup [.str [115, 104, 117, 116], .tup [th (v.i : Nat), th (v.i : Nat)]], .tup [.str [115, 104, 117, 116], .tup [th (j : Nat)]]])] ++ [Ob.lst [D.tup [.str [116, 104, 114, 111, 119], .tup [th (v.i : Nat), aNo]], .tup [.str [103, 111], .tup [.tup [.str [110, 117, 109, 98, 101, 114], .int 1], th (v.i : Nat)]]]]) = some (.ref (st ++ [Ob.lst [D.tup [.str [103, 111], .tup []], .tup [.str [103, 111], .tup [th (v.i : Nat), th (v.i : Nat), th (v.i : Nat)]], .tup [.str [103, 111], .tup [th (j : Nat)]], .tup [.str [116, 104, 114, 111, 119], .tup [th (v.i : Nat)]], .tup [.str [116, 104, 114, 111, 119], .tup [th (v.i : Nat), th (v.i : Nat)]]]] ++ [Ob.lst [D.tup [.str [116, 104, 114, 111, 119], .tup [th (j : Nat), th (j : Nat)]], .tup [.str [115, 104, 117, 116], .tup []], .tup [.str [115, 104, 117, 116], .tup [th (v.i : Nat), th (v.i : Nat)]], .tup [.str [115, 104, 117, 116], .tup [th (j : Nat)]]]] ++ [Ob.lst ([D.tup [.str [103, 111], .tup []], .tup [.str [103, 111], .tup [th (v.i : Nat), th (v.i : Nat), th (v.i : Nat)]], .tup [.str [103, 111], .tup [th (j : Nat)]], .tup [.str [116, 104, 114, 111, 119], .tup [th (v.i : Nat)]], .tup [.str [116, 104, 114, 111, 119], .tup [th (v.i : Nat), th (v.i : Nat)]]] ++ [D.tup [.str [116, 104, 114, 111, 119], .tup [th (j : Nat), th (j : Nat)]], .tup [.str [115, 104, 117, 116], .tup []], .tup [.str [115, 104, 117, 116], .tup [th (v.i : Nat), th (v.i : Nat)]], .tup [.str [115, 104, 117, 116], .tup [th (j : Nat)]]])] ++ [Ob.lst [D.tup [.str [116, 104, 114, 111, 119], .tup [th (v.i : Nat), aNo]], .tup [.str [103, 111], .tup [.tup [.str [110, 117, 109, 98, 101, 114], .int 1], th (v.i : Nat)]]]]).length, (st ++ [Ob.lst [D.tup [.str [103, 111], .tup []], .tup [.str [103, 111], .tup [th (v.i : Nat), th (v.i : Nat), th (v.i : Nat)]], .tup [.str [103, 111], .tup [th (j : Nat)]], .tup [.str [116, 104, 114, 111, 119], .tup [th (v.i : Nat)]], .tup [.str [116, 104, 114, 111, 119], .tup [th (v.i : Nat), th (v.i : Nat)]]]] ++ [Ob.lst [D.tup [.str [116, 104, 114, 111, 119], .tup [th (j : Nat), th (j : Nat)]], .tup [.str [115, 104, 117, 116], .tup []], .tup [.str [115, 104, 117, 116], .tup [th (v.i : Nat), th (v.i : Nat)]], .tup [.str [115, 104, 117, 116], .tup [th (j : Nat)]]]] ++ [Ob.lst ([D.tup [.str [103, 111], .tup []], .tup [.str [103, 111], .tup [th (v.i : Nat), th (v.i : Nat), th (v.i : Nat)]], .tup [.str [103, 111], .tup [th (j : Nat)]], .tup [.str [116, 104, 114, 111, 119], .tup [th (v.i : Nat)]], .tup [.str [116, 104, 114, 111, 119], .tup [th (v.i : Nat), th (v.i : Nat)]]] ++ [D.tup [.str [116, 104, 114, 111, 119], .tup [th (j : Nat), th (j : Nat)]], .tup [.str [115, 104, 117, 116], .tup []], .tup [.str [115, 104, 117, 116], .tup [th (v.i : Nat), th (v.i : Nat)]], .tup [.str [115, 104, 117, 116], .tup [th (j : Nat)]]])] ++ [Ob.lst [D.tup [.str [116, 104, 114, 111, 119], .tup [th (v.i : Nat), aNo]], .tup [.str [103, 111], .tup [.tup [.str [110, 117, 109, 98, 101, 114], .int 1], th (v.i : Nat)]]]] ++ [Ob.lst ([D.tup [.str [103, 111], .tup []], .tup [.str [103, 111], .tup [th (v.i : Nat), th (v.i : Nat), th (v.i : Nat)]], .tup [.str [103, 111], .tup [th (j : Nat)]], .tup [.str [116, 104, 114, 111, 119], .tup [th (v.i : Nat)]], .tup [.str [116, 104, 114, 111, 119], .tup [th (v.i : Nat), th (v.i : Nat)]]] ++ [D.tup [.str [116, 104, 114, 111, 119], .tup [th (j : Nat), th (j : Nat)]], .tup [.str [115, 104, 117, 116], .tup []], .tup [.str [115, 104, 117, 116], .tup [th (v.i : Nat), th (v.i : Nat)]], .tup [.str [115, 104, 117, 116], .tup [th (j : Nat)]]] ++ [D.tup [.str [116, 104, 114, 111, 119], .tup [th (v.i : Nat), aNo]], .tup [.str [103, 111], .tup [.tup [.str [110, 117, 109, 98, 101, 114], .int 1], th (v.i : Nat)]]])])) := opAdd_refs myL_end1 (myL_end _ _ []) (by simp)
  have w5 : Wd ths (st ++ [Ob.lst [D.tup [.str [103, 111], .tup []], .tup [.str [103, 111], .tup [th (v.i : Nat), th (v.i : Nat), th (v.i : Nat)]], .tup [.str [103, 111], .tup [th (j : Nat)]], .tup [.str [116, 104, 114, 111, 119], .tup [th (v.i : Nat)]], .tup [.str [116, 104, 114, 111, 119], .tup [th (v.i : Nat), th (v.i : Nat)]]]] ++ [Ob.lst [D.tup [.str [116, 104, 114, 111, 119], .tup [th (j : Nat), th (j : Nat)]], .tup [.str [115, 104, 117, 116], .tup []], .tup [.str [115, 104, 117, 116], .tup [th (v.i : Nat), th (v.i : Nat)]], .tup [.str [115, 104, 117, 116], .tup [th (j : Nat)]]]] ++ [Ob.lst ([D.tup [.str [103, 111], .tup []], .tup [.str [103, 111], .tup [th (v.i : Nat), th (v.i : Nat), th (v.i : Nat)]], .tup [.str [103, 111], .tup [th (j : Nat)]], .tup [.str [116, 104, 114, 111, 119], .tup [th (v.i : Nat)]], .tup [.str [116, 104, 114, 111, 119], .tup [th (v.i : Nat), th (v.i : Nat)]]] ++ [D.tup [.str [116, 104, 114, 111, 119], .tup [th (j : Nat), th (j : Nat)]], .tup [.str [115, 104, 117, 116], .tup []], .tup [.str [115, 104, 117, 116], .tup [th (v.i : Nat), th (v.i : Nat)]], .tup [.str [115, 104, 117, 116], .tup [th (j : Nat)]]])] ++ [Ob.lst [D.tup [.str [116, 104, 114, 111, 119], .tup [th (v.i : Nat), aNo]], .tup [.str [103, 111], .tup [.tup [.str [110, 117, 109, 98, 101, 114], .int 1], th (v.i : Nat)]]]] ++ [Ob.lst ([D.tup [.str [103, 111], .tup []], .tup [.str [103, 111], .tup [th (v.i : Nat), th (v.i : Nat), th (v.i : Nat)]], .tup [.str [103, 111], .tup [th (j : Nat)]], .tup [.str [116, 104, 114, 111, 119], .tup [th (v.i : Nat)]], .tup [.str [116, 104, 114, 111, 119], .tup [th (v.i : Nat), th (v.i : Nat)]]] ++ [D.tup [.str [116, 104, 114, 111, 119], .tup [th (j : Nat), th (j : Nat)]], .tup [.str [115, 104, 117, 116], .tup []], .tup [.str [115, 104, 117, 116], .tup [th (v.i : Nat), th (v.i : Nat)]], .tup [.str [115, 104, 117, 116], .tup [th (j : Nat)]]] ++ [D.tup [.str [116, 104, 114, 111, 119], .tup [th (v.i : Nat), aNo]], .tup [.str [103, 111], .tup [.tup [.str [110, 117, 109, 98, 101, 114], .int 1], th (v.i : Nat)]]])]) := ((((w.grow).grow).grow).grow).grow
  have il : isL (st ++ [Ob.lst [D.tup [.str [103, 111], .tup []], .tup [.str [103, 111], .tup [th (v.i : Nat), th (v.i : Nat), th (v.i : Nat)]], .tup [.str [103, 111], .tup [th (j : Nat)]], .tup [.str [116, 104, 114, 111, 119], .tup [th (v.i : Nat)]], .tup [.str [116, 104, 114, 111, 119], .tup [th (v.i : Nat), th (v.i : Nat)]]]] ++ [Ob.lst [D.tup [.str [116, 104, 114, 111, 119], .tup [th (j : Nat), th (j : Nat)]], .tup [.str [115, 104, 117, 116], .tup []], .tup [.str [115, 104, 117, 116], .tup [th (v.i : Nat), th (v.i : Nat)]], .tup [.str [115, 104, 117, 116], .tup [th (j : Nat)]]]] ++ [Ob.lst ([D.tup [.str [103, 111], .tup []], .tup [.str [103, 111], .tup [th (v.i : Nat), th (v.i : Nat), th (v.i : Nat)]], .tup [.str [103, 111], .tup [th (j : Nat)]], .tup [.str [116, 104, 114, 111, 119], .tup [th (v.i : Nat)]], .tup [.str [116, 104, 114, 111, 119], .tup [th (v.i : Nat), th (v.i : Nat)]]] ++ [D.tup [.str [116, 104, 114, 111, 119], .tup [th (j : Nat), th (j : Nat)]], .tup [.str [115, 104, 117, 116], .tup []], .tup [.str [115, 104, 117, 116], .tup [th (v.i : Nat), th (v.i : Nat)]], .tup [.str [115, 104, 117, 116], .tup [th (j : Nat)]]])] ++ [Ob.lst [D.tup [.str [116, 104, 114, 111, 119], .tup [th (v.i : Nat), aNo]], .tup [.str [103, 111], .tup [.tup [.str [110, 117, 109, 98, 101, 114], .int 1], th (v.i : Nat)]]]] ++ [Ob.lst ([D.tup [.str [103, 111], .tup []], .tup [.str [103, 111], .tup [th (v.i : Nat), th (v.i : Nat), th (v.i : Nat)]], .tup [.str [103, 111], .tup [th (j : Nat)]], .tup [.str [116, 104, 114, 111, 119], .tup [th (v.i : Nat)]], .tup [.str [116, 104, 114, 111, 119], .tup [th (v.i : Nat), th (v.i : Nat)]]] ++ [D.tup [.str [116, 104, 114, 111, 119], .tup [th (j : Nat), th (j : Nat)]], .tup [.str [115, 104, 117, 116], .tup []], .tup [.str [115, 104, 117, 116], .tup [th (v.i : Nat), th (v.i : Nat)]], .tup [.str [115, 104, 117, 116], .tup [th (j : Nat)]]] ++ [D.tup [.str [116, 104, 114, 111, 119], .tup [th (v.i : Nat), aNo]], .tup [.str [103, 111], .tup [.tup [.str [110, 117, 109, 98, 101, 114], .int 1], th (v.i : Nat)]]])]) (.ref (st ++ [Ob.lst [D.tup [.str [103, 111], .tup []], .tup [.str [103, 111], .tup [th (v.i : Nat), th (v.i : Nat), th (v.i : Nat)]], .tup [.str [103, 111], .tup [th (j : Nat)]], .tup [.str [116, 104, 114, 111, 119], .tup [th (v.i : Nat)]], .tup [.str [116, 104, 114, 111, 119], .tup [th (v.i : Nat), th (v.i : Nat)]]]] ++ [Ob.lst [D.tup [.str [116, 104, 114, 111, 119], .tup [th (j : Nat), th (j : Nat)]], .tup [.str [115, 104, 117, 116], .tup []], .tup [.str [115, 104, 117, 116], .tup [th (v.i : Nat), th (v.i : Nat)]], .tup [.str [115, 104, 117, 116], .tup [th (j : Nat)]]]] ++ [Ob.lst ([D.tup [.str [103, 111], .tup []], .tup [.str [103, 111], .tup [th (v.i : Nat), th (v.i : Nat), th (v.i : Nat)]], .tup [.str [103, 111], .tup [th (j : Nat)]], .tup [.str [116, 104, 114, 111, 119], .tup [th (v.i : Nat)]], .tup [.str [116, 104, 114, 111, 119], .tup [th (v.i : Nat), th (v.i : Nat)]]] ++ [D.tup [.str [116, 104, 114, 111, 119], .tup [th (j : Nat), th (j : Nat)]], .tup [.str [115, 104, 117, 116], .tup []], .tup [.str [115, 104, 117, 116], .tup [th (v.i : Nat), th (v.i : Nat)]], .tup [.str [115, 104, 117, 116], .tup [th (j : Nat)]]])] ++ [Ob.lst [D.tup [.str [116, 104, 114, 111, 119], .tup [th (v.i : Nat), aNo]], .tup [.str [103, 111], .tup [.tup [.str [110, 117, 109, 98, 101, 114], .int 1], th (v.i : Nat)]]]]).length) = true := isL_my (myL_end _ _ [])
  have ap : appM (.ref (st ++ [Ob.lst [D.tup [.str [103, 111], .tup []], .tup [.str [103, 111], .tup [th (v.i : Nat), th (v.i : Nat), th (v.i : Nat)]], .tup [.str [103, 111], .tup [th (j : Nat)]], .tup [.str [116, 104, 114, 111, 119], .tup [th (v.i : Nat)]], .tup [.str [116, 104, 114, 111, 119], .tup [th (v.i : Nat), th (v.i : Nat)]]]] ++ [Ob.lst [D.tup [.str [116, 104, 114, 111, 119], .tup [th (j : Nat), th (j : Nat)]], .tup [.str [115, 104, 117, 116], .tup []], .tup [.str [115, 104, 117, 116], .tup [th (v.i : Nat), th (v.i : Nat)]], .tup [.str [115, 104, 117, 116], .tup [th (j : Nat)]]]] ++ [Ob.lst ([D.tup [.str [103, 111], .tup []], .tup [.str [103, 111], .tup [th (v.i : Nat), th (v.i : Nat), th (v.i : Nat)]], .tup [.str [103, 111], .tup [th (j : Nat)]], .tup [.str [116, 104, 114, 111, 119], .tup [th (v.i : Nat)]], .tup [.str [116, 104, 114, 111, 119], .tup [th (v.i : Nat), th (v.i : Nat)]]] ++ [D.tup [.str [116, 104, 114, 111, 119], .tup [th (j : Nat), th (j : Nat)]], .tup [.str [115, 104, 117, 116], .tup []], .tup [.str [115, 104, 117, 116], .tup [th (v.i : Nat), th (v.i : Nat)]], .tup [.str [115, 104, 117, 116], .tup [th (j : Nat)]]])] ++ [Ob.lst [D.tup [.str [116, 104, 114, 111, 119], .tup [th (v.i : Nat), aNo]], .tup [.str [103, 111], .tup [.tup [.str [110, 117, 109, 98, 101, 114], .int 1], th (v.i : Nat)]]]]).length) [D.tup [.str [116, 104, 114, 111, 119], .tup [th (v.i : Nat), th 1]]] (st ++ [Ob.lst [D.tup [.str [103, 111], .tup []], .tup [.str [103, 111], .tup [th (v.i : Nat), th (v.i : Nat), th (v.i : Nat)]], .tup [.str [103, 111], .tup [th (j : Nat)]], .tup [.str [116, 104, 114, 111, 119], .tup [th (v.i : Nat)]], .tup [.str [116, 104, 114, 111, 119], .tup [th (v.i : Nat), th (v.i : Nat)]]]] ++ [Ob.lst [D.tup [.str [116, 104, 114, 111, 119], .tup [th (j : Nat), th (j : Nat)]], .tup [.str [115, 104, 117, 116], .tup []], .tup [.str [115, 104, 117, 116], .tup [th (v.i : Nat), th (v.i : Nat)]], .tup [.str [115, 104, 117, 116], .tup [th (j : Nat)]]]] ++ [Ob.lst ([D.tup [.str [103, 111], .tup []], .tup [.str [103, 111], .tup [th (v.i : Nat), th (v.i : Nat), th (v.i : Nat)]], .tup [.str [103, 111], .tup [th (j : Nat)]], .tup [.str [116, 104, 114, 111, 119], .tup [th (v.i : Nat)]], .tup [.str [116, 104, 114, 111, 119], .tup [th (v.i : Nat), th (v.i : Nat)]]] ++ [D.tup [.str [116, 104, 114, 111, 119], .tup [th (j : Nat), th (j : Nat)]], .tup [.str [115, 104, 117, 116], .tup []], .tup [.str [115, 104, 117, 116], .tup [th (v.i : Nat), th (v.i : Nat)]], .tup [.str [115, 104, 117, 116], .tup [th (j : Nat)]]])] ++ [Ob.lst [D.tup [.str [116, 104, 114, 111, 119], .tup [th (v.i : Nat), aNo]], .tup [.str [103, 111], .tup [.tup [.str [110, 117, 109, 98, 101, 114], .int 1], th (v.i : Nat)]]]] ++ [Ob.lst ([D.tup [.str [103, 111], .tup []], .tup [.str [103, 111], .tup [th (v.i : Nat), th (v.i : Nat), th (v.i : Nat)]], .tup [.str [103, 111], .tup [th (j : Nat)]], .tup [.str [116, 104, 114, 111, 119], .tup [th (v.i : Nat)]], .tup [.str [116, 104, 114, 111, 119], .tup [th (v.i : Nat), th (v.i : Nat)]]] ++ [D.tup [.str [116, 104, 114, 111, 119], .tup [th (j : Nat), th (j : Nat)]], .tup [.str [115, 104, 117, 116], .tup []], .tup [.str [115, 104, 117, 116], .tup [th (v.i : Nat), th (v.i : Nat)]], .tup [.str [115, 104, 117, 116], .tup [th (j : Nat)]]] ++ [D.tup [.str [116, 104, 114, 111, 119], .tup [th (v.i : Nat), aNo]], .tup [.str [103, 111], .tup [.tup [.str [110, 117, 109, 98, 101, 114], .int 1], th (v.i : Nat)]]])]) = some (.non, (st ++ [Ob.lst [D.tup [.str [103, 111], .tup []], .tup [.str [103, 111], .tup [th (v.i : Nat), th (v.i : Nat), th (v.i : Nat)]], .tup [.str [103, 111], .tup [th (j : Nat)]], .tup [.str [116, 104, 114, 111, 119], .tup [th (v.i : Nat)]], .tup [.str [116, 104, 114, 111, 119], .tup [th (v.i : Nat), th (v.i : Nat)]]]] ++ [Ob.lst [D.tup [.str [116, 104, 114, 111, 119], .tup [th (j : Nat), th (j : Nat)]], .tup [.str [115, 104, 117, 116], .tup []], .tup [.str [115, 104, 117, 116], .tup [th (v.i : Nat), th (v.i : Nat)]], .tup [.str [115, 104, 117, 116], .tup [th (j : Nat)]]]] ++ [Ob.lst ([D.tup [.str [103, 111], .tup []], .tup [.str [103, 111], .tup [th (v.i : Nat), th (v.i : Nat), th (v.i : Nat)]], .tup [.str [103, 111], .tup [th (j : Nat)]], .tup [.str [116, 104, 114, 111, 119], .tup [th (v.i : Nat)]], .tup [.str [116, 104, 114, 111, 119], .tup [th (v.i : Nat), th (v.i : Nat)]]] ++ [D.tup [.str [116, 104, 114, 111, 119], .tup [th (j : Nat), th (j : Nat)]], .tup [.str [115, 104, 117, 116], .tup []], .tup [.str [115, 104, 117, 116], .tup [th (v.i : Nat), th (v.i : Nat)]], .tup [.str [115, 104, 117, 116], .tup [th (j : Nat)]]])] ++ [Ob.lst [D.tup [.str [116, 104, 114, 111, 119], .tup [th (v.i : Nat), aNo]], .tup [.str [103, 111], .tup [.tup [.str [110, 117, 109, 98, 101, 114], .int 1], th (v.i : Nat)]]]] ++ [Ob.lst ([D.tup [.str [103, 111], .tup []], .tup [.str [103, 111], .tup [th (v.i : Nat), th (v.i : Nat), th (v.i : Nat)]], .tup [.str [103, 111], .tup [th (j : Nat)]], .tup [.str [116, 104, 114, 111, 119], .tup [th (v.i : Nat)]], .tup [.str [116, 104, 114, 111, 119], .tup [th (v.i : Nat), th (v.i : Nat)]]] ++ [D.tup [.str [116, 104, 114, 111, 119], .tup [th (j : Nat), th (j : Nat)]], .tup [.str [115, 104, 117, 116], .tup []], .tup [.str [115, 104, 117, 116], .tup [th (v.i : Nat), th (v.i : Nat)]], .tup [.str [115, 104, 117, 116], .tup [th (j : Nat)]]] ++ [D.tup [.str [116, 104, 114, 111, 119], .tup [th (v.i : Nat), aNo]], .tup [.str [103, 111], .tup [.tup [.str [110, 117, 109, 98, 101, 114], .int 1], th (v.i : Nat)]]] ++ [D.tup [.str [116, 104, 114, 111, 119], .tup [th (v.i : Nat), th 1]]])])) := by
    rw [app_is (myL_end _ _ []) (by simp), set_end]
  have ix : ixO (.ref (st ++ [Ob.lst [D.tup [.str [103, 111], .tup []], .tup [.str [103, 111], .tup [th (v.i : Nat), th (v.i : Nat), th (v.i : Nat)]], .tup [.str [103, 111], .tup [th (j : Nat)]], .tup [.str [116, 104, 114, 111, 119], .tup [th (v.i : Nat)]], .tup [.str [116, 104, 114, 111, 119], .tup [th (v.i : Nat), th (v.i : Nat)]]]] ++ [Ob.lst [D.tup [.str [116, 104, 114, 111, 119], .tup [th (j : Nat), th (j : Nat)]], .tup [.str [115, 104, 117, 116], .tup []], .tup [.str [115, 104, 117, 116], .tup [th (v.i : Nat), th (v.i : Nat)]], .tup [.str [115, 104, 117, 116], .tup [th (j : Nat)]]]] ++ [Ob.lst ([D.tup [.str [103, 111], .tup []], .tup [.str [103, 111], .tup [th (v.i : Nat), th (v.i : Nat), th (v.i : Nat)]], .tup [.str [103, 111], .tup [th (j : Nat)]], .tup [.str [116, 104, 114, 111, 119], .tup [th (v.i : Nat)]], .tup [.str [116, 104, 114, 111, 119], .tup [th (v.i : Nat), th (v.i : Nat)]]] ++ [D.tup [.str [116, 104, 114, 111, 119], .tup [th (j : Nat), th (j : Nat)]], .tup [.str [115, 104, 117, 116], .tup []], .tup [.str [115, 104, 117, 116], .tup [th (v.i : Nat), th (v.i : Nat)]], .tup [.str [115, 104, 117, 116], .tup [th (j : Nat)]]])] ++ [Ob.lst [D.tup [.str [116, 104, 114, 111, 119], .tup [th (v.i : Nat), aNo]], .tup [.str [103, 111], .tup [.tup [.str [110, 117, 109, 98, 101, 114], .int 1], th (v.i : Nat)]]]]).length) (.int (n % 12)) (st ++ [Ob.lst [D.tup [.str [103, 111], .tup []], .tup [.str [103, 111], .tup [th (v.i : Nat), th (v.i : Nat), th (v.i : Nat)]], .tup [.str [103, 111], .tup [th (j : Nat)]], .tup [.str [116, 104, 114, 111, 119], .tup [th (v.i : Nat)]], .tup [.str [116, 104, 114, 111, 119], .tup [th (v.i : Nat), th (v.i : Nat)]]]] ++ [Ob.lst [D.tup [.str [116, 104, 114, 111, 119], .tup [th (j : Nat), th (j : Nat)]], .tup [.str [115, 104, 117, 116], .tup []], .tup [.str [115, 104, 117, 116], .tup [th (v.i : Nat), th (v.i : Nat)]], .tup [.str [115, 104, 117, 116], .tup [th (j : Nat)]]]] ++ [Ob.lst ([D.tup [.str [103, 111], .tup []], .tup [.str [103, 111], .tup [th (v.i : Nat), th (v.i : Nat), th (v.i : Nat)]], .tup [.str [103, 111], .tup [th (j : Nat)]], .tup [.str [116, 104, 114, 111, 119], .tup [th (v.i : Nat)]], .tup [.str [116, 104, 114, 111, 119], .tup [th (v.i : Nat), th (v.i : Nat)]]] ++ [D.tup [.str [116, 104, 114, 111, 119], .tup [th (j : Nat), th (j : Nat)]], .tup [.str [115, 104, 117, 116], .tup []], .tup [.str [115, 104, 117, 116], .tup [th (v.i : Nat), th (v.i : Nat)]], .tup [.str [115, 104, 117, 116], .tup [th (j : Nat)]]])] ++ [Ob.lst [D.tup [.str [116, 104, 114, 111, 119], .tup [th (v.i : Nat), aNo]], .tup [.str [103, 111], .tup [.tup [.str [110, 117, 109, 98, 101, 114], .int 1], th (v.i : Nat)]]]] ++ [Ob.lst ([D.tup [.str [103, 111], .tup []], .tup [.str [103, 111], .tup [th (v.i : Nat), th (v.i : Nat), th (v.i : Nat)]], .tup [.str [103, 111], .tup [th (j : Nat)]], .tup [.str [116, 104, 114, 111, 119], .tup [th (v.i : Nat)]], .tup [.str [116, 104, 114, 111, 119], .tup [th (v.i : Nat), th (v.i : Nat)]]] ++ [D.tup [.str [116, 104, 114, 111, 119], .tup [th (j : Nat), th (j : Nat)]], .tup [.str [115, 104, 117, 116], .tup []], .tup [.str [115, 104, 117, 116], .tup [th (v.i : Nat), th (v.i : Nat)]], .tup [.str [115, 104, 117, 116], .tup [th (j : Nat)]]] ++ [D.tup [.str [116, 104, 114, 111, 119], .tup [th (v.i : Nat), aNo]], .tup [.str [103, 111], .tup [.tup [.str [110, 117, 109, 98, 101, 114], .int 1], th (v.i : Nat)]]] ++ [D.tup [.str [116, 104, 114, 111, 119], .tup [th (v.i : Nat), th 1]]])]) = some x := ixO_end.trans e
  have w6 : Wd ths (st ++ [Ob.lst [D.tup [.str [103, 111], .tup []], .tup [.str [103, 111], .tup [th (v.i : Nat), th (v.i : Nat), th (v.i : Nat)]], .tup [.str [103, 111], .tup [th (j : Nat)]], .tup [.str [116, 104, 114, 111, 119], .tup [th (v.i : Nat)]], .tup [.str [116, 104, 114, 111, 119], .tup [th (v.i : Nat), th (v.i : Nat)]]]] ++ [Ob.lst [D.tup [.str [116, 104, 114, 111, 119], .tup [th (j : Nat), th (j : Nat)]], .tup [.str [115, 104, 117, 116], .tup []], .tup [.str [115, 104, 117, 116], .tup [th (v.i : Nat), th (v.i : Nat)]], .tup [.str [115, 104, 117, 116], .tup [th (j : Nat)]]]] ++ [Ob.lst ([D.tup [.str [103, 111], .tup []], .tup [.str [103, 111], .tup [th (v.i : Nat), th (v.i : Nat), th (v.i : Nat)]], .tup [.str [103, 111], .tup [th (j : Nat)]], .tup [.str [116, 104, 114, 111, 119], .tup [th (v.i : Nat)]], .tup [.str [116, 104, 114, 111, 119], .tup [th (v.i : Nat), th (v.i : Nat)]]] ++ [D.tup [.str [116, 104, 114, 111, 119], .tup [th (j : Nat), th (j : Nat)]], .tup [.str [115, 104, 117, 116], .tup []], .tup [.str [115, 104, 117, 116], .tup [th (v.i : Nat), th (v.i : Nat)]], .tup [.str [115, 104, 117, 116], .tup [th (j : Nat)]]])] ++ [Ob.lst [D.tup [.str [116, 104, 114, 111, 119], .tup [th (v.i : Nat), aNo]], .tup [.str [103, 111], .tup [.tup [.str [110, 117, 109, 98, 101, 114], .int 1], th (v.i : Nat)]]]] ++ [Ob.lst ([D.tup [.str [103, 111], .tup []], .tup [.str [103, 111], .tup [th (v.i : Nat), th (v.i : Nat), th (v.i : Nat)]], .tup [.str [103, 111], .tup [th (j : Nat)]], .tup [.str [116, 104, 114, 111, 119], .tup [th (v.i : Nat)]], .tup [.str [116, 104, 114, 111, 119], .tup [th (v.i : Nat), th (v.i : Nat)]]] ++ [D.tup [.str [116, 104, 114, 111, 119], .tup [th (j : Nat), th (j : Nat)]], .tup [.str [115, 104, 117, 116], .tup []], .tup [.str [115, 104, 117, 116], .tup [th (v.i : Nat), th (v.i : Nat)]], .tup [.str [115, 104, 117, 116], .tup [th (j : Nat)]]] ++ [D.tup [.str [116, 104, 114, 111, 119], .tup [th (v.i : Nat), aNo]], .tup [.str [103, 111], .tup [.tup [.str [110, 117, 109, 98, 101, 114], .int 1], th (v.i : Nat)]]] ++ [D.tup [.str [116, 104, 114, 111, 119], .tup [th (v.i : Nat), th 1]]])]) := ((((w.grow).grow).grow).grow).grow
  have h6 : GvOk ths (st ++ [Ob.lst [D.tup [.str [103, 111], .tup []], .tup [.str [103, 111], .tup [th (v.i : Nat), th (v.i : Nat), th (v.i : Nat)]], .tup [.str [103, 111], .tup [th (j : Nat)]], .tup [.str [116, 104, 114, 111, 119], .tup [th (v.i : Nat)]], .tup [.str [116, 104, 114, 111, 119], .tup [th (v.i : Nat), th (v.i : Nat)]]]] ++ [Ob.lst [D.tup [.str [116, 104, 114, 111, 119], .tup [th (j : Nat), th (j : Nat)]], .tup [.str [115, 104, 117, 116], .tup []], .tup [.str [115, 104, 117, 116], .tup [th (v.i : Nat), th (v.i : Nat)]], .tup [.str [115, 104, 117, 116], .tup [th (j : Nat)]]]] ++ [Ob.lst ([D.tup [.str [103, 111], .tup []], .tup [.str [103, 111], .tup [th (v.i : Nat), th (v.i : Nat), th (v.i : Nat)]], .tup [.str [103, 111], .tup [th (j : Nat)]], .tup [.str [116, 104, 114, 111, 119], .tup [th (v.i : Nat)]], .tup [.str [116, 104, 114, 111, 119], .tup [th (v.i : Nat), th (v.i : Nat)]]] ++ [D.tup [.str [116, 104, 114, 111, 119], .tup [th (j : Nat), th (j : Nat)]], .tup [.str [115, 104, 117, 116], .tup []], .tup [.str [115, 104, 117, 116], .tup [th (v.i : Nat), th (v.i : Nat)]], .tup [.str [115, 104, 117, 116], .tup [th (j : Nat)]]])] ++ [Ob.lst [D.tup [.str [116, 104, 114, 111, 119], .tup [th (v.i : Nat), aNo]], .tup [.str [103, 111], .tup [.tup [.str [110, 117, 109, 98, 101, 114], .int 1], th (v.i : Nat)]]]] ++ [Ob.lst ([D.tup [.str [103, 111], .tup []], .tup [.str [103, 111], .tup [th (v.i : Nat), th (v.i : Nat), th (v.i : Nat)]], .tup [.str [103, 111], .tup [th (j : Nat)]], .tup [.str [116, 104, 114, 111, 119], .tup [th (v.i : Nat)]], .tup [.str [116, 104, 114, 111, 119], .tup [th (v.i : Nat), th (v.i : Nat)]]] ++ [D.tup [.str [116, 104, 114, 111, 119], .tup [th (j : Nat), th (j : Nat)]], .tup [.str [115, 104, 117, 116], .tup []], .tup [.str [115, 104, 117, 116], .tup [th (v.i : Nat), th (v.i : Nat)]], .tup [.str [115, 104, 117, 116], .tup [th (j : Nat)]]] ++ [D.tup [.str [116, 104, 114, 111, 119], .tup [th (v.i : Nat), aNo]], .tup [.str [103, 111], .tup [.tup [.str [110, 117, 109, 98, 101, 114], .int 1], th (v.i : Nat)]]] ++ [D.tup [.str [116, 104, 114, 111, 119], .tup [th (v.i : Nat), th 1]]])]) v := ((((h.more _).more _).more _).more _).more _
  have q6 : (st ++ [Ob.lst [D.tup [.str [103, 111], .tup []], .tup [.str [103, 111], .tup [th (v.i : Nat), th (v.i : Nat), th (v.i : Nat)]], .tup [.str [103, 111], .tup [th (j : Nat)]], .tup [.str [116, 104, 114, 111, 119], .tup [th (v.i : Nat)]], .tup [.str [116, 104, 114, 111, 119], .tup [th (v.i : Nat), th (v.i : Nat)]]]] ++ [Ob.lst [D.tup [.str [116, 104, 114, 111, 119], .tup [th (j : Nat), th (j : Nat)]], .tup [.str [115, 104, 117, 116], .tup []], .tup [.str [115, 104, 117, 116], .tup [th (v.i : Nat), th (v.i : Nat)]], .tup [.str [115, 104, 117, 116], .tup [th (j : Nat)]]]] ++ [Ob.lst ([D.tup [.str [103, 111], .tup []], .tup [.str [103, 111], .tup [th (v.i : Nat), th (v.i : Nat), th (v.i : Nat)]], .tup [.str [103, 111], .tup [th (j : Nat)]], .tup [.str [116, 104, 114, 111, 119], .tup [th (v.i : Nat)]], .tup [.str [116, 104, 114, 111, 119], .tup [th (v.i : Nat), th (v.i : Nat)]]] ++ [D.tup [.str [116, 104, 114, 111, 119], .tup [th (j : Nat), th (j : Nat)]], .tup [.str [115, 104, 117, 116], .tup []], .tup [.str [115, 104, 117, 116], .tup [th (v.i : Nat), th (v.i : Nat)]], .tup [.str [115, 104, 117, 116], .tup [th (j : Nat)]]])] ++ [Ob.lst [D.tup [.str [116, 104, 114, 111, 119], .tup [th (v.i : Nat), aNo]], .tup [.str [103, 111], .tup [.tup [.str [110, 117, 109, 98, 101, 114], .int 1], th (v.i : Nat)]]]] ++ [Ob.lst ([D.tup [.str [103, 111], .tup []], .tup [.str [103, 111], .tup [th (v.i : Nat), th (v.i : Nat), th (v.i : Nat)]], .tup [.str [103, 111], .tup [th (j : Nat)]], .tup [.str [116, 104, 114, 111, 119], .tup [th (v.i : Nat)]], .tup [.str [116, 104, 114, 111, 119], .tup [th (v.i : Nat), th (v.i : Nat)]]] ++ [D.tup [.str [116, 104, 114, 111, 119], .tup [th (j : Nat), th (j : Nat)]], .tup [.str [115, 104, 117, 116], .tup []], .tup [.str [115, 104, 117, 116], .tup [th (v.i : Nat), th (v.i : Nat)]], .tup [.str [115, 104, 117, 116], .tup [th (j : Nat)]]] ++ [D.tup [.str [116, 104, 114, 111, 119], .tup [th (v.i : Nat), aNo]], .tup [.str [103, 111], .tup [.tup [.str [110, 117, 109, 98, 101, 114], .int 1], th (v.i : Nat)]]] ++ [D.tup [.str [116, 104, 114, 111, 119], .tup [th (v.i : Nat), th 1]]])])[q]? = some (recF k f) := get_grow (get_grow (get_grow (get_grow (get_grow hq))))
  obtain ⟨wd, vs, gg, rfl, kn, cl⟩ := wrong_is w6 h6.i h6.r hj q6 x hx
  have qq : eqO (st ++ [Ob.lst [D.tup [.str [103, 111], .tup []], .tup [.str [103, 111], .tup [th (v.i : Nat), th (v.i : Nat), th (v.i : Nat)]], .tup [.str [103, 111], .tup [th (j : Nat)]], .tup [.str [116, 104, 114, 111, 119], .tup [th (v.i : Nat)]], .tup [.str [116, 104, 114, 111, 119], .tup [th (v.i : Nat), th (v.i : Nat)]]]] ++ [Ob.lst [D.tup [.str [116, 104, 114, 111, 119], .tup [th (j : Nat), th (j : Nat)]], .tup [.str [115, 104, 117, 116], .tup []], .tup [.str [115, 104, 117, 116], .tup [th (v.i : Nat), th (v.i : Nat)]], .tup [.str [115, 104, 117, 116], .tup [th (j : Nat)]]]] ++ [Ob.lst ([D.tup [.str [103, 111], .tup []], .tup [.str [103, 111], .tup [th (v.i : Nat), th (v.i : Nat), th (v.i : Nat)]], .tup [.str [103, 111], .tup [th (j : Nat)]], .tup [.str [116, 104, 114, 111, 119], .tup [th (v.i : Nat)]], .tup [.str [116, 104, 114, 111, 119], .tup [th (v.i : Nat), th (v.i : Nat)]]] ++ [D.tup [.str [116, 104, 114, 111, 119], .tup [th (j : Nat), th (j : Nat)]], .tup [.str [115, 104, 117, 116], .tup []], .tup [.str [115, 104, 117, 116], .tup [th (v.i : Nat), th (v.i : Nat)]], .tup [.str [115, 104, 117, 116], .tup [th (j : Nat)]]])] ++ [Ob.lst [D.tup [.str [116, 104, 114, 111, 119], .tup [th (v.i : Nat), aNo]], .tup [.str [103, 111], .tup [.tup [.str [110, 117, 109, 98, 101, 114], .int 1], th (v.i : Nat)]]]] ++ [Ob.lst ([D.tup [.str [103, 111], .tup []], .tup [.str [103, 111], .tup [th (v.i : Nat), th (v.i : Nat), th (v.i : Nat)]], .tup [.str [103, 111], .tup [th (j : Nat)]], .tup [.str [116, 104, 114, 111, 119], .tup [th (v.i : Nat)]], .tup [.str [116, 104, 114, 111, 119], .tup [th (v.i : Nat), th (v.i : Nat)]]] ++ [D.tup [.str [116, 104, 114, 111, 119], .tup [th (j : Nat), th (j : Nat)]], .tup [.str [115, 104, 117, 116], .tup []], .tup [.str [115, 104, 117, 116], .tup [th (v.i : Nat), th (v.i : Nat)]], .tup [.str [115, 104, 117, 116], .tup [th (j : Nat)]]] ++ [D.tup [.str [116, 104, 114, 111, 119], .tup [th (v.i : Nat), aNo]], .tup [.str [103, 111], .tup [.tup [.str [110, 117, 109, 98, 101, 114], .int 1], th (v.i : Nat)]]] ++ [D.tup [.str [116, 104, 114, 111, 119], .tup [th (v.i : Nat), th 1]]])]) fK fK = some true := eqO_self pd_fK
  refine ⟨(st ++ [Ob.lst [D.tup [.str [103, 111], .tup []], .tup [.str [103, 111], .tup [th (v.i : Nat), th (v.i : Nat), th (v.i : Nat)]], .tup [.str [103, 111], .tup [th (j : Nat)]], .tup [.str [116, 104, 114, 111, 119], .tup [th (v.i : Nat)]], .tup [.str [116, 104, 114, 111, 119], .tup [th (v.i : Nat), th (v.i : Nat)]]]] ++ [Ob.lst [D.tup [.str [116, 104, 114, 111, 119], .tup [th (j : Nat), th (j : Nat)]], .tup [.str [115, 104, 117, 116], .tup []], .tup [.str [115, 104, 117, 116], .tup [th (v.i : Nat), th (v.i : Nat)]], .tup [.str [115, 104, 117, 116], .tup [th (j : Nat)]]]] ++ [Ob.lst ([D.tup [.str [103, 111], .tup []], .tup [.str [103, 111], .tup [th (v.i : Nat), th (v.i : Nat), th (v.i : Nat)]], .tup [.str [103, 111], .tup [th (j : Nat)]], .tup [.str [116, 104, 114, 111, 119], .tup [th (v.i : Nat)]], .tup [.str [116, 104, 114, 111, 119], .tup [th (v.i : Nat), th (v.i : Nat)]]] ++ [D.tup [.str [116, 104, 114, 111, 119], .tup [th (j : Nat), th (j : Nat)]], .tup [.str [115, 104, 117, 116], .tup []], .tup [.str [115, 104, 117, 116], .tup [th (v.i : Nat), th (v.i : Nat)]], .tup [.str [115, 104, 117, 116], .tup [th (j : Nat)]]])] ++ [Ob.lst [D.tup [.str [116, 104, 114, 111, 119], .tup [th (v.i : Nat), aNo]], .tup [.str [103, 111], .tup [.tup [.str [110, 117, 109, 98, 101, 114], .int 1], th (v.i : Nat)]]]] ++ [Ob.lst ([D.tup [.str [103, 111], .tup []], .tup [.str [103, 111], .tup [th (v.i : Nat), th (v.i : Nat), th (v.i : Nat)]], .tup [.str [103, 111], .tup [th (j : Nat)]], .tup [.str [116, 104, 114, 111, 119], .tup [th (v.i : Nat)]], .tup [.str [116, 104, 114, 111, 119], .tup [th (v.i : Nat), th (v.i : Nat)]]] ++ [D.tup [.str [116, 104, 114, 111, 119], .tup [th (j : Nat), th (j : Nat)]], .tup [.str [115, 104, 117, 116], .tup []], .tup [.str [115, 104, 117, 116], .tup [th (v.i : Nat), th (v.i : Nat)]], .tup [.str [115, 104, 117, 116], .tup [th (j : Nat)]]] ++ [D.tup [.str [116, 104, 114, 111, 119], .tup [th (v.i : Nat), aNo]], .tup [.str [103, 111], .tup [.tup [.str [110, 117, 109, 98, 101, 114], .int 1], th (v.i : Nat)]]] ++ [D.tup [.str [116, 104, 114, 111, 119], .tup [th (v.i : Nat), th 1]]])]), ?_, ?_⟩
  · simp only [F_l_wrong, b_l_wrong, eVar_at, kVar_some, eC_at, eBin_at, k2_some, k3_some, eUn_at, k1_some, kVal_some, kBl_some, kEq_at, kBlN_some, kNe_at, kIn_at, kNotIn_at, kIx_at, ixO_tup, kLt_int, kLe_int, kGt_int, kGe_int, kLt_str, kLe_str, kGt_str, kGe_str, kIs_non, kIs_bl, kIs_int, kIs_str, kIs_tup, kIs_ref, kIsNot_non, kIsNot_bl, kIsNot_int, kIsNot_str, kIsNot_tup, kIsNot_ref, opAdd_int, opAdd_str, opSub_int, opMul_int, opDiv_int, opMod_int, opPow_int, opAnd_int, opOr_int, opNeg_int, eChain_at, kc1_some, kc2_some, kc3_true, kc3_false, kc4_some, tOf_at, kTru_some, kTru2_some, truD_non, truD_bl, truD_int, truD_tup, tAnd_at, kAnd_true, kAnd_false, tOr_at, kOr_true, kOr_false, tNot_at, kNot_some, tYes_at, eAnd_at, keAnd_some, keAnd2_true, keAnd2_false, eOr_at, keOr_some, keOr2_true, keOr2_false, eNot_at, keNot_some, keNot2_some, eIf_at, keIf_true, keIf_false, aNil_at, aCons_at, ka1_some, ka2_some, eTup_at, kTup_0, kTup_1, kTup_2, kTup_3, kTup_4, kTup_5, kTup_6, eLst_at, kLst_0, kLst_1, kLst_2, kLst_3, kLst_4, eDic0_at, eCall_at, kCall_some, o1_at, isiO_at, kIsi_some, tyD_non, tyD_bl, tyD_int, tyD_str, tyD_tup, eBM_at, kbm1_some, kbm2_some, eSl_at, ks2_some, ks3_some, ks4_some, oNone_at, oSome_at, kSome_int, slO_str, sSeq_at, kSeq_nx, kSeq_rt, kSeq_bk, kSeq_ct, sNext_at, sBreak_at, sCont_at, sRetN_at, sRet_at, kRet_some, sExpr_at, kExpr_some, sSet_at, kSet_some, sIf_at, kIf_true, kIf_false, sPar2_k, kPar2_some, sPar3_k, kPar3_some, sAsg_at, kAsg_some, kAsg2_some, mName_at, mTup_2, mTup_3, mCons_at, kmCons_some, mNil_at, sPut_at, kp1_some, kp2_some, kp3_some, kp4_some, kFn_rt, kFn_nx, mkFn_0, mkFn_1, mkFn_2, mkFn_3, mkFn_4, mkFn_5, sWhile_at, List.getElem?_cons_zero, List.getElem?_cons_succ, List.set_cons_zero, List.set_cons_succ, List.replicate_succ, List.replicate_zero, Nat.reduceSub, Bool.not_true, Bool.not_false, ite_true, ite_false, if_true, if_false, reduceCtorEq, fldM_at, sFldM_at, kSF1_some, kSF2_some, kSF3_some, sFldAddM_at, kSA1_some, kSA2_int, eMake_at, kMk1_some, kMk2_some, isCM_at, isCO_non, eGet1_at, kG12_some, kG13_some, eGet2_at, kG22_some, kG23_some, eCallD_at, kCallD_some, eKdx_at, kKdx_some, kIsB_at, atI0, atI1, eq_str, ixO_tup, lenO_tup, mTup_2, eqO_int, List.cons.injEq, Nat.reduceEqDiff, decide_false, decide_true, and_false, and_true, false_and, true_and, Bool.or_false, Bool.or_true, Bool.true_or, Bool.false_or, Bool.and_true, Bool.and_false, Bool.false_and, Bool.true_and, Int.reduceLE, Int.reduceLT, cDv_2, cMd_2, gDv_2, gMd_2, cDv_3, cMd_3, gDv_3, gMd_3, cDv_4, cMd_4, gDv_4, gMd_4, cDv_5, cMd_5, gDv_5, gMd_5, cDv_7, cMd_7, gDv_7, gMd_7, cDv_8, cMd_8, gDv_8, gMd_8, cDv_9, cMd_9, gDv_9, gMd_9, cDv_12, cMd_12, gDv_12, gMd_12, cDv_16, cMd_16, gDv_16, gMd_16, cDv_28, cMd_28, gDv_28, gMd_28, cDv_140, cMd_140, gDv_140, gMd_140, cDv_900, cMd_900, gDv_900, gMd_900, kLst_5, ig, a1, a2, kn_Fault w5, il, ap, ix, kn, cl, qq]
  · have R := Res.stay w h ([Ob.lst [D.tup [.str [103, 111], .tup []], .tup [.str [103, 111], .tup [th (v.i : Nat), th (v.i : Nat), th (v.i : Nat)]], .tup [.str [103, 111], .tup [th (j : Nat)]], .tup [.str [116, 104, 114, 111, 119], .tup [th (v.i : Nat)]], .tup [.str [116, 104, 114, 111, 119], .tup [th (v.i : Nat), th (v.i : Nat)]]]] ++ [Ob.lst [D.tup [.str [116, 104, 114, 111, 119], .tup [th (j : Nat), th (j : Nat)]], .tup [.str [115, 104, 117, 116], .tup []], .tup [.str [115, 104, 117, 116], .tup [th (v.i : Nat), th (v.i : Nat)]], .tup [.str [115, 104, 117, 116], .tup [th (j : Nat)]]]] ++ [Ob.lst ([D.tup [.str [103, 111], .tup []], .tup [.str [103, 111], .tup [th (v.i : Nat), th (v.i : Nat), th (v.i : Nat)]], .tup [.str [103, 111], .tup [th (j : Nat)]], .tup [.str [116, 104, 114, 111, 119], .tup [th (v.i : Nat)]], .tup [.str [116, 104, 114, 111, 119], .tup [th (v.i : Nat), th (v.i : Nat)]]] ++ [D.tup [.str [116, 104, 114, 111, 119], .tup [th (j : Nat), th (j : Nat)]], .tup [.str [115, 104, 117, 116], .tup []], .tup [.str [115, 104, 117, 116], .tup [th (v.i : Nat), th (v.i : Nat)]], .tup [.str [115, 104, 117, 116], .tup [th (j : Nat)]]])] ++ [Ob.lst [D.tup [.str [116, 104, 114, 111, 119], .tup [th (v.i : Nat), aNo]], .tup [.str [103, 111], .tup [.tup [.str [110, 117, 109, 98, 101, 114], .int 1], th (v.i : Nat)]]]] ++ [Ob.lst ([D.tup [.str [103, 111], .tup []], .tup [.str [103, 111], .tup [th (v.i : Nat), th (v.i : Nat), th (v.i : Nat)]], .tup [.str [103, 111], .tup [th (j : Nat)]], .tup [.str [116, 104, 114, 111, 119], .tup [th (v.i : Nat)]], .tup [.str [116, 104, 114, 111, 119], .tup [th (v.i : Nat), th (v.i : Nat)]]] ++ [D.tup [.str [116, 104, 114, 111, 119], .tup [th (j : Nat), th (j : Nat)]], .tup [.str [115, 104, 117, 116], .tup []], .tup [.str [115, 104, 117, 116], .tup [th (v.i : Nat), th (v.i : Nat)]], .tup [.str [115, 104, 117, 116], .tup [th (j : Nat)]]] ++ [D.tup [.str [116, 104, 114, 111, 119], .tup [th (v.i : Nat), aNo]], .tup [.str [103, 111], .tup [.tup [.str [110, 117, 109, 98, 101, 114], .int 1], th (v.i : Nat)]]] ++ [D.tup [.str [116, 104, 114, 111, 119], .tup [th (v.i : Nat), th 1]]])])
    simpa only [List.append_assoc] using R
end
noncomputable def DEND : MS := (sSeq (sIf (tOf (eBin kLt (eBin opMod (eVar 6) (eC (.int 7))) (eC (.int 3)))) (sRet (eCall F_l_goes_on (aCons (eVar 0) (aCons (eVar 5) (aCons (eBin opDiv (eVar 6) (eC (.int 7))) aNil))))) sNext) (sSeq (sIf (tOf (eBin kEq (eBin opMod (eVar 6) (eC (.int 7))) (eC (.int 3)))) (sRet (eCall F_l_thrown (aCons (eVar 0) (aCons (eVar 5) (aCons (eVar 7) aNil))))) sNext) (sSeq (sIf (tOf (eBin kEq (eBin opMod (eVar 6) (eC (.int 7))) (eC (.int 4)))) (sRet (eCall F_l_shut (aCons (eVar 0) (aCons (eVar 5) aNil)))) sNext) (sSeq (sIf (tOf (eBin kEq (eBin opMod (eVar 6) (eC (.int 7))) (eC (.int 5)))) (sRet (eCall F_l_wrong (aCons (eVar 0) (aCons (eBin opDiv (eVar 6) (eC (.int 7))) (aCons (eVar 5) (aCons (eVar 7) aNil)))))) sNext) (sSeq (sPut (eVar 5) (eC (.str [115, 116, 97, 116, 101])) (eBin kIx (eLst (aCons (eC (.str [110, 101, 119])) (aCons (eC (.str [119, 97, 105, 116, 115])) (aCons (eC (.str [103, 111, 101, 115])) (aCons (eC (.str [111, 118, 101, 114])) aNil))))) (eBin opMod (eBin opDiv (eVar 6) (eC (.int 7))) (eC (.int 4))))) (sSeq (sExpr (eCall F_set_state (aCons (eVar 0) (aCons (eBin kIx (eVar 5) (eC (.str [103, 105, 118, 101, 114]))) (aCons (eBin kIx (eVar 5) (eC (.str [115, 116, 97, 116, 101]))) aNil))))) (sRet (eAnd (eNot (eCall F_is_giver (aCons (eVar 0) (aCons (eVar 7) aNil)))) (eNot (eCall F_is_giver (aCons (eVar 0) (aCons (eCall F_l_plain (aCons (eVar 6) aNil)) aNil))))))))))))
theorem deed_eq : b_l_deed = sSeq (sSet 4 (eCall F_l_cell (aCons (eVar 2) (aCons (eVar 3) aNil)))) (sSeq (sSet 5 (eBin kIx (eVar 1) (eBin opMod (eVar 4) (eCall (o1 lenO) (aCons (eVar 1) aNil))))) (sSeq (sSet 6 (eBin opDiv (eVar 4) (eC (.int 5)))) (sSeq (sSet 7 (eCallD F_made [(.non : D)] (aCons (eVar 0) (aCons (eBin kIx (eLst (aCons (eC (.str [70, 97, 117, 108, 116])) (aCons (eC (.str [69, 110, 100, 70, 97, 117, 108, 116])) (aCons (eC (.str [83, 104, 117, 116, 70, 97, 117, 108, 116])) aNil)))) (eBin opMod (eVar 6) (eC (.int 3)))) aNil)))) DEND))) := rfl
section
variable {ths : List Nat} {st : Sto} {v : Gv}
theorem dend_is (w : Wd ths st) (h : GvOk ths st v) {j q : Nat} {k : Int} (hk : FK k) {f : D} (hj : ths[j]? = some q) (hq : st[q]? = some (recF k f)) (m : Int) (h0 : 0 ≤ m) (x1 x2 x3 x4 : Option D) :
    ∃ ρ st', DEND [some (.ref 4), x1, x2, x3, x4, some (.ref v.d), some (.int m), some (th (j : Nat))] st = some (.rt (.bl true), ρ, st') ∧ Res ths st v st' := by
  by_cases c0 : m % 7 < 3
  · obtain ⟨st', e, R⟩ := goes_is w h (m / 7) (by omega)
    refine ⟨[some (.ref 4), x1, x2, x3, x4, some (.ref v.d), some (.int m), some (th (j : Nat))], _, ?_, R⟩
    simp only [DEND, eVar_at, kVar_some, eC_at, eBin_at, k2_some, k3_some, eUn_at, k1_some, kVal_some, kBl_some, kEq_at, kBlN_some, kNe_at, kIn_at, kNotIn_at, kIx_at, ixO_tup, kLt_int, kLe_int, kGt_int, kGe_int, kLt_str, kLe_str, kGt_str, kGe_str, kIs_non, kIs_bl, kIs_int, kIs_str, kIs_tup, kIs_ref, kIsNot_non, kIsNot_bl, kIsNot_int, kIsNot_str, kIsNot_tup, kIsNot_ref, opAdd_int, opAdd_str, opSub_int, opMul_int, opDiv_int, opMod_int, opPow_int, opAnd_int, opOr_int, opNeg_int, eChain_at, kc1_some, kc2_some, kc3_true, kc3_false, kc4_some, tOf_at, kTru_some, kTru2_some, truD_non, truD_bl, truD_int, truD_tup, tAnd_at, kAnd_true, kAnd_false, tOr_at, kOr_true, kOr_false, tNot_at, kNot_some, tYes_at, eAnd_at, keAnd_some, keAnd2_true, keAnd2_false, eOr_at, keOr_some, keOr2_true, keOr2_false, eNot_at, keNot_some, keNot2_some, eIf_at, keIf_true, keIf_false, aNil_at, aCons_at, ka1_some, ka2_some, eTup_at, kTup_0, kTup_1, kTup_2, kTup_3, kTup_4, kTup_5, kTup_6, eLst_at, kLst_0, kLst_1, kLst_2, kLst_3, kLst_4, eDic0_at, eCall_at, kCall_some, o1_at, isiO_at, kIsi_some, tyD_non, tyD_bl, tyD_int, tyD_str, tyD_tup, eBM_at, kbm1_some, kbm2_some, eSl_at, ks2_some, ks3_some, ks4_some, oNone_at, oSome_at, kSome_int, slO_str, sSeq_at, kSeq_nx, kSeq_rt, kSeq_bk, kSeq_ct, sNext_at, sBreak_at, sCont_at, sRetN_at, sRet_at, kRet_some, sExpr_at, kExpr_some, sSet_at, kSet_some, sIf_at, kIf_true, kIf_false, sPar2_k, kPar2_some, sPar3_k, kPar3_some, sAsg_at, kAsg_some, kAsg2_some, mName_at, mTup_2, mTup_3, mCons_at, kmCons_some, mNil_at, sPut_at, kp1_some, kp2_some, kp3_some, kp4_some, kFn_rt, kFn_nx, mkFn_0, mkFn_1, mkFn_2, mkFn_3, mkFn_4, mkFn_5, sWhile_at, List.getElem?_cons_zero, List.getElem?_cons_succ, List.set_cons_zero, List.set_cons_succ, List.replicate_succ, List.replicate_zero, Nat.reduceSub, Bool.not_true, Bool.not_false, ite_true, ite_false, if_true, if_false, reduceCtorEq, fldM_at, sFldM_at, kSF1_some, kSF2_some, kSF3_some, sFldAddM_at, kSA1_some, kSA2_int, eMake_at, kMk1_some, kMk2_some, isCM_at, isCO_non, eGet1_at, kG12_some, kG13_some, eGet2_at, kG22_some, kG23_some, eCallD_at, kCallD_some, eKdx_at, kKdx_some, kIsB_at, atI0, atI1, eq_str, ixO_tup, lenO_tup, mTup_2, eqO_int, List.cons.injEq, Nat.reduceEqDiff, decide_false, decide_true, and_false, and_true, false_and, true_and, Bool.or_false, Bool.or_true, Bool.true_or, Bool.false_or, Bool.and_true, Bool.and_false, Bool.false_and, Bool.true_and, Int.reduceLE, Int.reduceLT, cDv_2, cMd_2, gDv_2, gMd_2, cDv_3, cMd_3, gDv_3, gMd_3, cDv_4, cMd_4, gDv_4, gMd_4, cDv_5, cMd_5, gDv_5, gMd_5, cDv_7, cMd_7, gDv_7, gMd_7, cDv_8, cMd_8, gDv_8, gMd_8, cDv_9, cMd_9, gDv_9, gMd_9, cDv_12, cMd_12, gDv_12, gMd_12, cDv_16, cMd_16, gDv_16, gMd_16, cDv_28, cMd_28, gDv_28, gMd_28, cDv_140, cMd_140, gDv_140, gMd_140, cDv_900, cMd_900, gDv_900, gMd_900, c0, e]
  have c0' : decide (m % 7 < 3) = false := decide_eq_false c0
  by_cases c1 : m % 7 = 3
  · have c1' : (m % 7 == 3) = true := beq_iff_eq.mpr c1
    have e := lthrown_is w h hk hj hq
    have R := Res.stay w h []
    rw [List.append_nil] at R
    refine ⟨[some (.ref 4), x1, x2, x3, x4, some (.ref v.d), some (.int m), some (th (j : Nat))], _, ?_, R⟩
    simp only [DEND, eVar_at, kVar_some, eC_at, eBin_at, k2_some, k3_some, eUn_at, k1_some, kVal_some, kBl_some, kEq_at, kBlN_some, kNe_at, kIn_at, kNotIn_at, kIx_at, ixO_tup, kLt_int, kLe_int, kGt_int, kGe_int, kLt_str, kLe_str, kGt_str, kGe_str, kIs_non, kIs_bl, kIs_int, kIs_str, kIs_tup, kIs_ref, kIsNot_non, kIsNot_bl, kIsNot_int, kIsNot_str, kIsNot_tup, kIsNot_ref, opAdd_int, opAdd_str, opSub_int, opMul_int, opDiv_int, opMod_int, opPow_int, opAnd_int, opOr_int, opNeg_int, eChain_at, kc1_some, kc2_some, kc3_true, kc3_false, kc4_some, tOf_at, kTru_some, kTru2_some, truD_non, truD_bl, truD_int, truD_tup, tAnd_at, kAnd_true, kAnd_false, tOr_at, kOr_true, kOr_false, tNot_at, kNot_some, tYes_at, eAnd_at, keAnd_some, keAnd2_true, keAnd2_false, eOr_at, keOr_some, keOr2_true, keOr2_false, eNot_at, keNot_some, keNot2_some, eIf_at, keIf_true, keIf_false, aNil_at, aCons_at, ka1_some, ka2_some, eTup_at, kTup_0, kTup_1, kTup_2, kTup_3, kTup_4, kTup_5, kTup_6, eLst_at, kLst_0, kLst_1, kLst_2, kLst_3, kLst_4, eDic0_at, eCall_at, kCall_some, o1_at, isiO_at, kIsi_some, tyD_non, tyD_bl, tyD_int, tyD_str, tyD_tup, eBM_at, kbm1_some, kbm2_some, eSl_at, ks2_some, ks3_some, ks4_some, oNone_at, oSome_at, kSome_int, slO_str, sSeq_at, kSeq_nx, kSeq_rt, kSeq_bk, kSeq_ct, sNext_at, sBreak_at, sCont_at, sRetN_at, sRet_at, kRet_some, sExpr_at, kExpr_some, sSet_at, kSet_some, sIf_at, kIf_true, kIf_false, sPar2_k, kPar2_some, sPar3_k, kPar3_some, sAsg_at, kAsg_some, kAsg2_some, mName_at, mTup_2, mTup_3, mCons_at, kmCons_some, mNil_at, sPut_at, kp1_some, kp2_some, kp3_some, kp4_some, kFn_rt, kFn_nx, mkFn_0, mkFn_1, mkFn_2, mkFn_3, mkFn_4, mkFn_5, sWhile_at, List.getElem?_cons_zero, List.getElem?_cons_succ, List.set_cons_zero, List.set_cons_succ, List.replicate_succ, List.replicate_zero, Nat.reduceSub, Bool.not_true, Bool.not_false, ite_true, ite_false, if_true, if_false, reduceCtorEq, fldM_at, sFldM_at, kSF1_some, kSF2_some, kSF3_some, sFldAddM_at, kSA1_some, kSA2_int, eMake_at, kMk1_some, kMk2_some, isCM_at, isCO_non, eGet1_at, kG12_some, kG13_some, eGet2_at, kG22_some, kG23_some, eCallD_at, kCallD_some, eKdx_at, kKdx_some, kIsB_at, atI0, atI1, eq_str, ixO_tup, lenO_tup, mTup_2, eqO_int, List.cons.injEq, Nat.reduceEqDiff, decide_false, decide_true, and_false, and_true, false_and, true_and, Bool.or_false, Bool.or_true, Bool.true_or, Bool.false_or, Bool.and_true, Bool.and_false, Bool.false_and, Bool.true_and, Int.reduceLE, Int.reduceLT, cDv_2, cMd_2, gDv_2, gMd_2, cDv_3, cMd_3, gDv_3, gMd_3, cDv_4, cMd_4, gDv_4, gMd_4, cDv_5, cMd_5, gDv_5, gMd_5, cDv_7, cMd_7, gDv_7, gMd_7, cDv_8, cMd_8, gDv_8, gMd_8, cDv_9, cMd_9, gDv_9, gMd_9, cDv_12, cMd_12, gDv_12, gMd_12, cDv_16, cMd_16, gDv_16, gMd_16, cDv_28, cMd_28, gDv_28, gMd_28, cDv_140, cMd_140, gDv_140, gMd_140, cDv_900, cMd_900, gDv_900, gMd_900, c0', c1', e]
  have c1' : (m % 7 == 3) = false := beq_eq_false_iff_ne.mpr c1
  by_cases c2 : m % 7 = 4
  · have c2' : (m % 7 == 4) = true := beq_iff_eq.mpr c2
    obtain ⟨st', e, R⟩ := lshut_is w h
    refine ⟨[some (.ref 4), x1, x2, x3, x4, some (.ref v.d), some (.int m), some (th (j : Nat))], _, ?_, R⟩
    simp only [DEND, eVar_at, kVar_some, eC_at, eBin_at, k2_some, k3_some, eUn_at, k1_some, kVal_some, kBl_some, kEq_at, kBlN_some, kNe_at, kIn_at, kNotIn_at, kIx_at, ixO_tup, kLt_int, kLe_int, kGt_int, kGe_int, kLt_str, kLe_str, kGt_str, kGe_str, kIs_non, kIs_bl, kIs_int, kIs_str, kIs_tup, kIs_ref, kIsNot_non, kIsNot_bl, kIsNot_int, kIsNot_str, kIsNot_tup, kIsNot_ref, opAdd_int, opAdd_str, opSub_int, opMul_int, opDiv_int, opMod_int, opPow_int, opAnd_int, opOr_int, opNeg_int, eChain_at, kc1_some, kc2_some, kc3_true, kc3_false, kc4_some, tOf_at, kTru_some, kTru2_some, truD_non, truD_bl, truD_int, truD_tup, tAnd_at, kAnd_true, kAnd_false, tOr_at, kOr_true, kOr_false, tNot_at, kNot_some, tYes_at, eAnd_at, keAnd_some, keAnd2_true, keAnd2_false, eOr_at, keOr_some, keOr2_true, keOr2_false, eNot_at, keNot_some, keNot2_some, eIf_at, keIf_true, keIf_false, aNil_at, aCons_at, ka1_some, ka2_some, eTup_at, kTup_0, kTup_1, kTup_2, kTup_3, kTup_4, kTup_5, kTup_6, eLst_at, kLst_0, kLst_1, kLst_2, kLst_3, kLst_4, eDic0_at, eCall_at, kCall_some, o1_at, isiO_at, kIsi_some, tyD_non, tyD_bl, tyD_int, tyD_str, tyD_tup, eBM_at, kbm1_some, kbm2_some, eSl_at, ks2_some, ks3_some, ks4_some, oNone_at, oSome_at, kSome_int, slO_str, sSeq_at, kSeq_nx, kSeq_rt, kSeq_bk, kSeq_ct, sNext_at, sBreak_at, sCont_at, sRetN_at, sRet_at, kRet_some, sExpr_at, kExpr_some, sSet_at, kSet_some, sIf_at, kIf_true, kIf_false, sPar2_k, kPar2_some, sPar3_k, kPar3_some, sAsg_at, kAsg_some, kAsg2_some, mName_at, mTup_2, mTup_3, mCons_at, kmCons_some, mNil_at, sPut_at, kp1_some, kp2_some, kp3_some, kp4_some, kFn_rt, kFn_nx, mkFn_0, mkFn_1, mkFn_2, mkFn_3, mkFn_4, mkFn_5, sWhile_at, List.getElem?_cons_zero, List.getElem?_cons_succ, List.set_cons_zero, List.set_cons_succ, List.replicate_succ, List.replicate_zero, Nat.reduceSub, Bool.not_true, Bool.not_false, ite_true, ite_false, if_true, if_false, reduceCtorEq, fldM_at, sFldM_at, kSF1_some, kSF2_some, kSF3_some, sFldAddM_at, kSA1_some, kSA2_int, eMake_at, kMk1_some, kMk2_some, isCM_at, isCO_non, eGet1_at, kG12_some, kG13_some, eGet2_at, kG22_some, kG23_some, eCallD_at, kCallD_some, eKdx_at, kKdx_some, kIsB_at, atI0, atI1, eq_str, ixO_tup, lenO_tup, mTup_2, eqO_int, List.cons.injEq, Nat.reduceEqDiff, decide_false, decide_true, and_false, and_true, false_and, true_and, Bool.or_false, Bool.or_true, Bool.true_or, Bool.false_or, Bool.and_true, Bool.and_false, Bool.false_and, Bool.true_and, Int.reduceLE, Int.reduceLT, cDv_2, cMd_2, gDv_2, gMd_2, cDv_3, cMd_3, gDv_3, gMd_3, cDv_4, cMd_4, gDv_4, gMd_4, cDv_5, cMd_5, gDv_5, gMd_5, cDv_7, cMd_7, gDv_7, gMd_7, cDv_8, cMd_8, gDv_8, gMd_8, cDv_9, cMd_9, gDv_9, gMd_9, cDv_12, cMd_12, gDv_12, gMd_12, cDv_16, cMd_16, gDv_16, gMd_16, cDv_28, cMd_28, gDv_28, gMd_28, cDv_140, cMd_140, gDv_140, gMd_140, cDv_900, cMd_900, gDv_900, gMd_900, c0', c1', c2', e]
  have c2' : (m % 7 == 4) = false := beq_eq_false_iff_ne.mpr c2
  by_cases c3 : m % 7 = 5
  · have c3' : (m % 7 == 5) = true := beq_iff_eq.mpr c3
    obtain ⟨st', e, R⟩ := lwrong_is w h hj hq (m / 7) (by omega)
    refine ⟨[some (.ref 4), x1, x2, x3, x4, some (.ref v.d), some (.int m), some (th (j : Nat))], _, ?_, R⟩
    simp only [DEND, eVar_at, kVar_some, eC_at, eBin_at, k2_some, k3_some, eUn_at, k1_some, kVal_some, kBl_some, kEq_at, kBlN_some, kNe_at, kIn_at, kNotIn_at, kIx_at, ixO_tup, kLt_int, kLe_int, kGt_int, kGe_int, kLt_str, kLe_str, kGt_str, kGe_str, kIs_non, kIs_bl, kIs_int, kIs_str, kIs_tup, kIs_ref, kIsNot_non, kIsNot_bl, kIsNot_int, kIsNot_str, kIsNot_tup, kIsNot_ref, opAdd_int, opAdd_str, opSub_int, opMul_int, opDiv_int, opMod_int, opPow_int, opAnd_int, opOr_int, opNeg_int, eChain_at, kc1_some, kc2_some, kc3_true, kc3_false, kc4_some, tOf_at, kTru_some, kTru2_some, truD_non, truD_bl, truD_int, truD_tup, tAnd_at, kAnd_true, kAnd_false, tOr_at, kOr_true, kOr_false, tNot_at, kNot_some, tYes_at, eAnd_at, keAnd_some, keAnd2_true, keAnd2_false, eOr_at, keOr_some, keOr2_true, keOr2_false, eNot_at, keNot_some, keNot2_some, eIf_at, keIf_true, keIf_false, aNil_at, aCons_at, ka1_some, ka2_some, eTup_at, kTup_0, kTup_1, kTup_2, kTup_3, kTup_4, kTup_5, kTup_6, eLst_at, kLst_0, kLst_1, kLst_2, kLst_3, kLst_4, eDic0_at, eCall_at, kCall_some, o1_at, isiO_at, kIsi_some, tyD_non, tyD_bl, tyD_int, tyD_str, tyD_tup, eBM_at, kbm1_some, kbm2_some, eSl_at, ks2_some, ks3_some, ks4_some, oNone_at, oSome_at, kSome_int, slO_str, sSeq_at, kSeq_nx, kSeq_rt, kSeq_bk, kSeq_ct, sNext_at, sBreak_at, sCont_at, sRetN_at, sRet_at, kRet_some, sExpr_at, kExpr_some, sSet_at, kSet_some, sIf_at, kIf_true, kIf_false, sPar2_k, kPar2_some, sPar3_k, kPar3_some, sAsg_at, kAsg_some, kAsg2_some, mName_at, mTup_2, mTup_3, mCons_at, kmCons_some, mNil_at, sPut_at, kp1_some, kp2_some, kp3_some, kp4_some, kFn_rt, kFn_nx, mkFn_0, mkFn_1, mkFn_2, mkFn_3, mkFn_4, mkFn_5, sWhile_at, List.getElem?_cons_zero, List.getElem?_cons_succ, List.set_cons_zero, List.set_cons_succ, List.replicate_succ, List.replicate_zero, Nat.reduceSub, Bool.not_true, Bool.not_false, ite_true, ite_false, if_true, if_false, reduceCtorEq, fldM_at, sFldM_at, kSF1_some, kSF2_some, kSF3_some, sFldAddM_at, kSA1_some, kSA2_int, eMake_at, kMk1_some, kMk2_some, isCM_at, isCO_non, eGet1_at, kG12_some, kG13_some, eGet2_at, kG22_some, kG23_some, eCallD_at, kCallD_some, eKdx_at, kKdx_some, kIsB_at, atI0, atI1, eq_str, ixO_tup, lenO_tup, mTup_2, eqO_int, List.cons.injEq, Nat.reduceEqDiff, decide_false, decide_true, and_false, and_true, false_and, true_and, Bool.or_false, Bool.or_true, Bool.true_or, Bool.false_or, Bool.and_true, Bool.and_false, Bool.false_and, Bool.true_and, Int.reduceLE, Int.reduceLT, cDv_2, cMd_2, gDv_2, gMd_2, cDv_3, cMd_3, gDv_3, gMd_3, cDv_4, cMd_4, gDv_4, gMd_4, cDv_5, cMd_5, gDv_5, gMd_5, cDv_7, cMd_7, gDv_7, gMd_7, cDv_8, cMd_8, gDv_8, gMd_8, cDv_9, cMd_9, gDv_9, gMd_9, cDv_12, cMd_12, gDv_12, gMd_12, cDv_16, cMd_16, gDv_16, gMd_16, cDv_28, cMd_28, gDv_28, gMd_28, cDv_140, cMd_140, gDv_140, gMd_140, cDv_900, cMd_900, gDv_900, gMd_900, c0', c1', c2', c3', e]
  have c3' : (m % 7 == 5) = false := beq_eq_false_iff_ne.mpr c3
  have r0 : 0 ≤ m / 7 % 4 := by omega
  have r1 : m / 7 % 4 < 4 := by omega
  obtain ⟨x, hx, e⟩ := atI_in (xs := [D.str sNew, .str sWaits, .str sGoes, .str sOver]) r0 (by simpa using r1)
  have hx' : ∃ s, x = .str s ∧ St4 s := by
    simp only [List.mem_cons, List.not_mem_nil, or_false] at hx
    rcases hx with rfl | rfl | rfl | rfl
    · exact ⟨_, rfl, .inl rfl⟩
    · exact ⟨_, rfl, .inr (.inr (.inl rfl))⟩
    · exact ⟨_, rfl, .inr (.inl rfl)⟩
    · exact ⟨_, rfl, .inr (.inr (.inr rfl))⟩
  obtain ⟨s, rfl, h4⟩ := hx'
  have e4 : ixO (.ref st.length) (.int (m / 7 % 4)) (st ++ [.lst [D.str sNew, .str sWaits, .str sGoes, .str sOver]]) = some (.str s) := ixO_end.trans e
  have hd : (st ++ [Ob.lst [D.str sNew, .str sWaits, .str sGoes, .str sOver]])[v.d]? = some (.dic v.one) := get_grow h.d
  have hr : (st ++ [Ob.lst [D.str sNew, .str sWaits, .str sGoes, .str sOver]])[v.r]? = some v.rc := get_grow h.r
  have ld := (List.getElem?_eq_some_iff.mp hd).1
  have e5 := set_dic (k := [115, 116, 97, 116, 101]) (x := .str s) hd (one_len v)
  rw [put_state] at e5
  have hd2 : ((st ++ [Ob.lst [D.str sNew, .str sWaits, .str sGoes, .str sOver]]).set v.d (.dic ({ v with s := s } : Gv).one))[v.d]? = some (.dic ({ v with s := s } : Gv).one) := List.getElem?_set_self ld
  have hr2 : ((st ++ [Ob.lst [D.str sNew, .str sWaits, .str sGoes, .str sOver]]).set v.d (.dic ({ v with s := s } : Gv).one))[v.r]? = some (recG v.nm v.fr v.en v.at_ (.str v.s)) := by
    rw [List.getElem?_set_ne h.ne]
    exact hr
  have e6 := ix_dic hd2 (one_giver ({ v with s := s } : Gv))
  have e7 := ix_dic hd2 (one_state ({ v with s := s } : Gv))
  have w2 : Wd ths ((st ++ [Ob.lst [D.str sNew, .str sWaits, .str sGoes, .str sOver]]).set v.d (.dic ({ v with s := s } : Gv).one)) := (w.grow).set h.ld
  have e8 := set_is w2 h.i hr2 (.str s)
  obtain ⟨v', w3, h3, s3, o3⟩ := Res.both (v' := { v with s := s }) w h [Ob.lst [D.str sNew, .str sWaits, .str sGoes, .str sOver]] ⟨rfl, rfl, rfl, rfl, rfl⟩ h4 h.c1
  have q3 : (((st ++ [Ob.lst [D.str sNew, .str sWaits, .str sGoes, .str sOver]]).set v.d (.dic ({ v with s := s } : Gv).one)).set v.r ({ v with s := s } : Gv).rc)[q]? = some (recF k f) := by
    refine o3 q _ (fun z => ?_) hq
    rcases List.mem_cons.mp z with e | e
    · rw [e, h.d] at hq
      cases hq
    · rw [List.mem_singleton.mp e, h.r] at hq
      cases hq
  have g1 := giver_of w3 hj q3 (by decide)
  obtain ⟨p, gg, hp, ep⟩ := plain_is m h0 (((st ++ [Ob.lst [D.str sNew, .str sWaits, .str sGoes, .str sOver]]).set v.d (.dic ({ v with s := s } : Gv).one)).set v.r ({ v with s := s } : Gv).rc)
  obtain ⟨t, rr, rfl, ht⟩ := hp.head
  have g2 := giver_no (st := (((st ++ [Ob.lst [D.str sNew, .str sWaits, .str sGoes, .str sOver]]).set v.d (.dic ({ v with s := s } : Gv).one)).set v.r ({ v with s := s } : Gv).rc) ++ gg) (r := rr) ht
  have hrc : ({ v with s := s } : Gv).rc = recG v.nm v.fr v.en v.at_ (.str s) := rfl
  rw [hrc] at g1 ep g2 w3 h3 o3
  refine ⟨[some (.ref 4), x1, x2, x3, x4, some (.ref v.d), some (.int m), some (th (j : Nat))], _, ?_, ⟨v', w3.grow (g := gg), h3.more gg, s3, o3.trans Only.grow⟩⟩
  simp only [DEND, eVar_at, kVar_some, eC_at, eBin_at, k2_some, k3_some, eUn_at, k1_some, kVal_some, kBl_some, kEq_at, kBlN_some, kNe_at, kIn_at, kNotIn_at, kIx_at, ixO_tup, kLt_int, kLe_int, kGt_int, kGe_int, kLt_str, kLe_str, kGt_str, kGe_str, kIs_non, kIs_bl, kIs_int, kIs_str, kIs_tup, kIs_ref, kIsNot_non, kIsNot_bl, kIsNot_int, kIsNot_str, kIsNot_tup, kIsNot_ref, opAdd_int, opAdd_str, opSub_int, opMul_int, opDiv_int, opMod_int, opPow_int, opAnd_int, opOr_int, opNeg_int, eChain_at, kc1_some, kc2_some, kc3_true, kc3_false, kc4_some, tOf_at, kTru_some, kTru2_some, truD_non, truD_bl, truD_int, truD_tup, tAnd_at, kAnd_true, kAnd_false, tOr_at, kOr_true, kOr_false, tNot_at, kNot_some, tYes_at, eAnd_at, keAnd_some, keAnd2_true, keAnd2_false, eOr_at, keOr_some, keOr2_true, keOr2_false, eNot_at, keNot_some, keNot2_some, eIf_at, keIf_true, keIf_false, aNil_at, aCons_at, ka1_some, ka2_some, eTup_at, kTup_0, kTup_1, kTup_2, kTup_3, kTup_4, kTup_5, kTup_6, eLst_at, kLst_0, kLst_1, kLst_2, kLst_3, kLst_4, eDic0_at, eCall_at, kCall_some, o1_at, isiO_at, kIsi_some, tyD_non, tyD_bl, tyD_int, tyD_str, tyD_tup, eBM_at, kbm1_some, kbm2_some, eSl_at, ks2_some, ks3_some, ks4_some, oNone_at, oSome_at, kSome_int, slO_str, sSeq_at, kSeq_nx, kSeq_rt, kSeq_bk, kSeq_ct, sNext_at, sBreak_at, sCont_at, sRetN_at, sRet_at, kRet_some, sExpr_at, kExpr_some, sSet_at, kSet_some, sIf_at, kIf_true, kIf_false, sPar2_k, kPar2_some, sPar3_k, kPar3_some, sAsg_at, kAsg_some, kAsg2_some, mName_at, mTup_2, mTup_3, mCons_at, kmCons_some, mNil_at, sPut_at, kp1_some, kp2_some, kp3_some, kp4_some, kFn_rt, kFn_nx, mkFn_0, mkFn_1, mkFn_2, mkFn_3, mkFn_4, mkFn_5, sWhile_at, List.getElem?_cons_zero, List.getElem?_cons_succ, List.set_cons_zero, List.set_cons_succ, List.replicate_succ, List.replicate_zero, Nat.reduceSub, Bool.not_true, Bool.not_false, ite_true, ite_false, if_true, if_false, reduceCtorEq, fldM_at, sFldM_at, kSF1_some, kSF2_some, kSF3_some, sFldAddM_at, kSA1_some, kSA2_int, eMake_at, kMk1_some, kMk2_some, isCM_at, isCO_non, eGet1_at, kG12_some, kG13_some, eGet2_at, kG22_some, kG23_some, eCallD_at, kCallD_some, eKdx_at, kKdx_some, kIsB_at, atI0, atI1, eq_str, ixO_tup, lenO_tup, mTup_2, eqO_int, List.cons.injEq, Nat.reduceEqDiff, decide_false, decide_true, and_false, and_true, false_and, true_and, Bool.or_false, Bool.or_true, Bool.true_or, Bool.false_or, Bool.and_true, Bool.and_false, Bool.false_and, Bool.true_and, Int.reduceLE, Int.reduceLT, cDv_2, cMd_2, gDv_2, gMd_2, cDv_3, cMd_3, gDv_3, gMd_3, cDv_4, cMd_4, gDv_4, gMd_4, cDv_5, cMd_5, gDv_5, gMd_5, cDv_7, cMd_7, gDv_7, gMd_7, cDv_8, cMd_8, gDv_8, gMd_8, cDv_9, cMd_9, gDv_9, gMd_9, cDv_12, cMd_12, gDv_12, gMd_12, cDv_16, cMd_16, gDv_16, gMd_16, cDv_28, cMd_28, gDv_28, gMd_28, cDv_140, cMd_140, gDv_140, gMd_140, cDv_900, cMd_900, gDv_900, gMd_900, c0', c1', c2', c3', e4, e5, e6, e7, e8, g1, ep, g2, show decide (5 ∈ [6]) = false by decide]
end
end Math

set_option maxRecDepth 100000
set_option maxHeartbeats 4000000
namespace Math
open MP Text PySem
theorem gDiv_pos {i j : Int} (hj : 0 < j) : gDiv i j = i / j := by
  unfold gDiv
  rw [if_pos hj]
theorem cell_at {st : Sto} {j k : Nat} {ns : List Int} (h : rdL st j = some (ns.map D.int)) : ∃ n, F_l_cell_at [.ref j, .int (k : Nat)] st = some (.int n, st) := by
  by_cases hk : k < ns.length
  · refine ⟨ns[k], ?_⟩
    have e : ixO (.ref j) (.int (k : Nat)) st = some (.int ns[k]) := by
      rw [ixO_lst h]
      exact L2.atI_nat (by simp [hk])
    have c : (k : Int) < (ns.length : Int) := by omega
    simp only [F_l_cell_at, b_l_cell_at, eVar_at, kVar_some, eC_at, eBin_at, k2_some, k3_some, eUn_at, k1_some, kVal_some, kBl_some, kEq_at, kBlN_some, kNe_at, kIn_at, kNotIn_at, kIx_at, ixO_tup, kLt_int, kLe_int, kGt_int, kGe_int, kLt_str, kLe_str, kGt_str, kGe_str, kIs_non, kIs_bl, kIs_int, kIs_str, kIs_tup, kIs_ref, kIsNot_non, kIsNot_bl, kIsNot_int, kIsNot_str, kIsNot_tup, kIsNot_ref, opAdd_int, opAdd_str, opSub_int, opMul_int, opDiv_int, opMod_int, opPow_int, opAnd_int, opOr_int, opNeg_int, eChain_at, kc1_some, kc2_some, kc3_true, kc3_false, kc4_some, tOf_at, kTru_some, kTru2_some, truD_non, truD_bl, truD_int, truD_tup, tAnd_at, kAnd_true, kAnd_false, tOr_at, kOr_true, kOr_false, tNot_at, kNot_some, tYes_at, eAnd_at, keAnd_some, keAnd2_true, keAnd2_false, eOr_at, keOr_some, keOr2_true, keOr2_false, eNot_at, keNot_some, keNot2_some, eIf_at, keIf_true, keIf_false, aNil_at, aCons_at, ka1_some, ka2_some, eTup_at, kTup_0, kTup_1, kTup_2, kTup_3, kTup_4, kTup_5, kTup_6, eLst_at, kLst_0, kLst_1, kLst_2, kLst_3, kLst_4, eDic0_at, eCall_at, kCall_some, o1_at, isiO_at, kIsi_some, tyD_non, tyD_bl, tyD_int, tyD_str, tyD_tup, eBM_at, kbm1_some, kbm2_some, eSl_at, ks2_some, ks3_some, ks4_some, oNone_at, oSome_at, kSome_int, slO_str, sSeq_at, kSeq_nx, kSeq_rt, kSeq_bk, kSeq_ct, sNext_at, sBreak_at, sCont_at, sRetN_at, sRet_at, kRet_some, sExpr_at, kExpr_some, sSet_at, kSet_some, sIf_at, kIf_true, kIf_false, sPar2_k, kPar2_some, sPar3_k, kPar3_some, sAsg_at, kAsg_some, kAsg2_some, mName_at, mTup_2, mTup_3, mCons_at, kmCons_some, mNil_at, sPut_at, kp1_some, kp2_some, kp3_some, kp4_some, kFn_rt, kFn_nx, mkFn_0, mkFn_1, mkFn_2, mkFn_3, mkFn_4, mkFn_5, sWhile_at, List.getElem?_cons_zero, List.getElem?_cons_succ, List.set_cons_zero, List.set_cons_succ, List.replicate_succ, List.replicate_zero, Nat.reduceSub, Bool.not_true, Bool.not_false, ite_true, ite_false, if_true, if_false, reduceCtorEq, lenO_lst h, List.length_map, e, c, decide_true]
  · refine ⟨0, ?_⟩
    have c : ¬ (k : Int) < (ns.length : Int) := by omega
    simp only [F_l_cell_at, b_l_cell_at, eVar_at, kVar_some, eC_at, eBin_at, k2_some, k3_some, eUn_at, k1_some, kVal_some, kBl_some, kEq_at, kBlN_some, kNe_at, kIn_at, kNotIn_at, kIx_at, ixO_tup, kLt_int, kLe_int, kGt_int, kGe_int, kLt_str, kLe_str, kGt_str, kGe_str, kIs_non, kIs_bl, kIs_int, kIs_str, kIs_tup, kIs_ref, kIsNot_non, kIsNot_bl, kIsNot_int, kIsNot_str, kIsNot_tup, kIsNot_ref, opAdd_int, opAdd_str, opSub_int, opMul_int, opDiv_int, opMod_int, opPow_int, opAnd_int, opOr_int, opNeg_int, eChain_at, kc1_some, kc2_some, kc3_true, kc3_false, kc4_some, tOf_at, kTru_some, kTru2_some, truD_non, truD_bl, truD_int, truD_tup, tAnd_at, kAnd_true, kAnd_false, tOr_at, kOr_true, kOr_false, tNot_at, kNot_some, tYes_at, eAnd_at, keAnd_some, keAnd2_true, keAnd2_false, eOr_at, keOr_some, keOr2_true, keOr2_false, eNot_at, keNot_some, keNot2_some, eIf_at, keIf_true, keIf_false, aNil_at, aCons_at, ka1_some, ka2_some, eTup_at, kTup_0, kTup_1, kTup_2, kTup_3, kTup_4, kTup_5, kTup_6, eLst_at, kLst_0, kLst_1, kLst_2, kLst_3, kLst_4, eDic0_at, eCall_at, kCall_some, o1_at, isiO_at, kIsi_some, tyD_non, tyD_bl, tyD_int, tyD_str, tyD_tup, eBM_at, kbm1_some, kbm2_some, eSl_at, ks2_some, ks3_some, ks4_some, oNone_at, oSome_at, kSome_int, slO_str, sSeq_at, kSeq_nx, kSeq_rt, kSeq_bk, kSeq_ct, sNext_at, sBreak_at, sCont_at, sRetN_at, sRet_at, kRet_some, sExpr_at, kExpr_some, sSet_at, kSet_some, sIf_at, kIf_true, kIf_false, sPar2_k, kPar2_some, sPar3_k, kPar3_some, sAsg_at, kAsg_some, kAsg2_some, mName_at, mTup_2, mTup_3, mCons_at, kmCons_some, mNil_at, sPut_at, kp1_some, kp2_some, kp3_some, kp4_some, kFn_rt, kFn_nx, mkFn_0, mkFn_1, mkFn_2, mkFn_3, mkFn_4, mkFn_5, sWhile_at, List.getElem?_cons_zero, List.getElem?_cons_succ, List.set_cons_zero, List.set_cons_succ, List.replicate_succ, List.replicate_zero, Nat.reduceSub, Bool.not_true, Bool.not_false, ite_true, ite_false, if_true, if_false, reduceCtorEq, lenO_lst h, List.length_map, c, decide_false]
theorem cell {st : Sto} {c s : Nat} {cs : List Int} {k : Nat} (hc : rdL st c = some (cs.map D.int)) (hs : myL st s = some [.int (k : Nat)]) (hn : s ≠ c) (hk : k < 1000) (hlen : (cs.length : Int).natAbs.log2 < 9000) :
    ∃ n : Int, 0 ≤ n ∧ n < 306783379 ∧ F_l_cell [.ref c, .ref s] st = some (.int n, st.set s (.lst [.int ((k + 1 : Nat) : Int)])) := by
  have hl : s < st.length := rdL_lt (myL_rdL hs)
  have e0 : ixO (.ref s) (.int 0) st = some (.int (k : Nat)) := by
    rw [ixO_lst (myL_rdL hs)]
    rfl
  have e1 : setO (.ref s) (.int 0) (.int ((k : Int) + 1)) st = some (st.set s (.lst [.int ((k + 1 : Nat) : Int)])) := by
    have := setO_lst (i := 0) (d := .int ((k : Int) + 1)) hs (by simp)
    exact this
  generalize hs' : st.set s (.lst [.int ((k + 1 : Nat) : Int)]) = st' at e1 ⊢
  have hc' : rdL st' c = some (cs.map D.int) := by rw [← hs', rdL_set_ne hn, hc]
  have hm' : myL st' s = some [.int ((k + 1 : Nat) : Int)] := by rw [← hs', myL_set hl]
  have e2 : ixO (.ref s) (.int 0) st' = some (.int ((k + 1 : Nat) : Int)) := by
    rw [ixO_lst (myL_rdL hm')]
    rfl
  have hb : ∀ b : Int, 0 ≤ b * 48271 % 2147483647 / 7 ∧ b * 48271 % 2147483647 / 7 < 306783379 := fun b => by omega
  have m1 : cMul (31 * ((k + 1 : Nat) : Int)) ((k + 1 : Nat) : Int) = true := decide_eq_true (.inr (.inl (by
    have : (2 : Nat) ^ 64 = 18446744073709551616 := by decide
    omega)))
  by_cases hz : 0 < cs.length
  · have c0 : (0 : Int) < (cs.length : Int) := by omega
    have q1 : gMod ((k + 1 : Nat) : Int) (cs.length : Int) = ((k + 1 : Nat) : Int) % (cs.length : Int) := by
      unfold gMod
      rw [if_pos c0]
    have q2 : gDiv ((k + 1 : Nat) : Int) (cs.length : Int) = ((k + 1 : Nat) : Int) / (cs.length : Int) := gDiv_pos c0
    have r0 : 0 ≤ ((k + 1 : Nat) : Int) % (cs.length : Int) := Int.emod_nonneg _ (by omega)
    have r1 : ((k + 1 : Nat) : Int) % (cs.length : Int) < (cs.length : Int) := Int.emod_lt_of_pos _ c0
    obtain ⟨x, _, e3⟩ := atI_in (xs := cs) r0 r1
    have e4 : ixO (.ref c) (.int (((k + 1 : Nat) : Int) % (cs.length : Int))) st' = some (.int x) := by
      rw [ixO_lst hc', atI_map, e3]
      rfl
    have m2 : cMul x (1 + ((k + 1 : Nat) : Int) / (cs.length : Int)) = true := decide_eq_true (.inr (.inl (by
      have : (2 : Nat) ^ 64 = 18446744073709551616 := by decide
      have h4 : 0 ≤ ((k + 1 : Nat) : Int) / (cs.length : Int) := Int.ediv_nonneg (by omega) (by omega)
      have h5 : ((k + 1 : Nat) : Int) / (cs.length : Int) ≤ ((k + 1 : Nat) : Int) := Int.ediv_le_self _ (by omega)
      omega)))
    have m3 : cMod ((k + 1 : Nat) : Int) (cs.length : Int) = true := decide_eq_true (by omega)
    have m4 : cDiv ((k + 1 : Nat) : Int) (cs.length : Int) = true := decide_eq_true ⟨by omega, hlen⟩
    refine ⟨_, (hb (31 * ((k + 1 : Nat) : Int) * ((k + 1 : Nat) : Int) + 7919 * ((k + 1 : Nat) : Int) + x * (1 + ((k + 1 : Nat) : Int) / (cs.length : Int)))).1, (hb _).2, ?_⟩
    simp only [F_l_cell, b_l_cell, eVar_at, kVar_some, eC_at, eBin_at, k2_some, k3_some, eUn_at, k1_some, kVal_some, kBl_some, kEq_at, kBlN_some, kNe_at, kIn_at, kNotIn_at, kIx_at, ixO_tup, kLt_int, kLe_int, kGt_int, kGe_int, kLt_str, kLe_str, kGt_str, kGe_str, kIs_non, kIs_bl, kIs_int, kIs_str, kIs_tup, kIs_ref, kIsNot_non, kIsNot_bl, kIsNot_int, kIsNot_str, kIsNot_tup, kIsNot_ref, opAdd_int, opAdd_str, opSub_int, opMul_int, opDiv_int, opMod_int, opPow_int, opAnd_int, opOr_int, opNeg_int, eChain_at, kc1_some, kc2_some, kc3_true, kc3_false, kc4_some, tOf_at, kTru_some, kTru2_some, truD_non, truD_bl, truD_int, truD_tup, tAnd_at, kAnd_true, kAnd_false, tOr_at, kOr_true, kOr_false, tNot_at, kNot_some, tYes_at, eAnd_at, keAnd_some, keAnd2_true, keAnd2_false, eOr_at, keOr_some, keOr2_true, keOr2_false, eNot_at, keNot_some, keNot2_some, eIf_at, keIf_true, keIf_false, aNil_at, aCons_at, ka1_some, ka2_some, eTup_at, kTup_0, kTup_1, kTup_2, kTup_3, kTup_4, kTup_5, kTup_6, eLst_at, kLst_0, kLst_1, kLst_2, kLst_3, kLst_4, eDic0_at, eCall_at, kCall_some, o1_at, isiO_at, kIsi_some, tyD_non, tyD_bl, tyD_int, tyD_str, tyD_tup, eBM_at, kbm1_some, kbm2_some, eSl_at, ks2_some, ks3_some, ks4_some, oNone_at, oSome_at, kSome_int, slO_str, sSeq_at, kSeq_nx, kSeq_rt, kSeq_bk, kSeq_ct, sNext_at, sBreak_at, sCont_at, sRetN_at, sRet_at, kRet_some, sExpr_at, kExpr_some, sSet_at, kSet_some, sIf_at, kIf_true, kIf_false, sPar2_k, kPar2_some, sPar3_k, kPar3_some, sAsg_at, kAsg_some, kAsg2_some, mName_at, mTup_2, mTup_3, mCons_at, kmCons_some, mNil_at, sPut_at, kp1_some, kp2_some, kp3_some, kp4_some, kFn_rt, kFn_nx, mkFn_0, mkFn_1, mkFn_2, mkFn_3, mkFn_4, mkFn_5, sWhile_at, List.getElem?_cons_zero, List.getElem?_cons_succ, List.set_cons_zero, List.set_cons_succ, List.replicate_succ, List.replicate_zero, Nat.reduceSub, Bool.not_true, Bool.not_false, ite_true, ite_false, if_true, if_false, reduceCtorEq, e0, e1, e2, e4, lenO_lst hc', List.length_map, c0, decide_true, m1, m2, m3, m4, q1, q2, cDv_2, cMd_2, gDv_2, gMd_2, cMr_2, cMl_2, cDv_3, cMd_3, gDv_3, gMd_3, cMr_3, cMl_3, cDv_4, cMd_4, gDv_4, gMd_4, cMr_4, cMl_4, cDv_5, cMd_5, gDv_5, gMd_5, cMr_5, cMl_5, cDv_7, cMd_7, gDv_7, gMd_7, cMr_7, cMl_7, cDv_8, cMd_8, gDv_8, gMd_8, cMr_8, cMl_8, cDv_9, cMd_9, gDv_9, gMd_9, cMr_9, cMl_9, cDv_12, cMd_12, gDv_12, gMd_12, cMr_12, cMl_12, cDv_16, cMd_16, gDv_16, gMd_16, cMr_16, cMl_16, cDv_28, cMd_28, gDv_28, gMd_28, cMr_28, cMl_28, cDv_140, cMd_140, gDv_140, gMd_140, cMr_140, cMl_140, cDv_900, cMd_900, gDv_900, gMd_900, cMr_900, cMl_900, cDv_31, cMd_31, gDv_31, gMd_31, cMr_31, cMl_31, cDv_7919, cMd_7919, gDv_7919, gMd_7919, cMr_7919, cMl_7919, cDv_48271, cMd_48271, gDv_48271, gMd_48271, cMr_48271, cMl_48271, cDv_2147483647, cMd_2147483647, gDv_2147483647, gMd_2147483647, cMr_2147483647, cMl_2147483647]
  · have c0 : ¬ (0 : Int) < (cs.length : Int) := by omega
    refine ⟨_, (hb (31 * ((k + 1 : Nat) : Int) * ((k + 1 : Nat) : Int) + 7919 * ((k + 1 : Nat) : Int))).1, (hb _).2, ?_⟩
    simp only [F_l_cell, b_l_cell, eVar_at, kVar_some, eC_at, eBin_at, k2_some, k3_some, eUn_at, k1_some, kVal_some, kBl_some, kEq_at, kBlN_some, kNe_at, kIn_at, kNotIn_at, kIx_at, ixO_tup, kLt_int, kLe_int, kGt_int, kGe_int, kLt_str, kLe_str, kGt_str, kGe_str, kIs_non, kIs_bl, kIs_int, kIs_str, kIs_tup, kIs_ref, kIsNot_non, kIsNot_bl, kIsNot_int, kIsNot_str, kIsNot_tup, kIsNot_ref, opAdd_int, opAdd_str, opSub_int, opMul_int, opDiv_int, opMod_int, opPow_int, opAnd_int, opOr_int, opNeg_int, eChain_at, kc1_some, kc2_some, kc3_true, kc3_false, kc4_some, tOf_at, kTru_some, kTru2_some, truD_non, truD_bl, truD_int, truD_tup, tAnd_at, kAnd_true, kAnd_false, tOr_at, kOr_true, kOr_false, tNot_at, kNot_some, tYes_at, eAnd_at, keAnd_some, keAnd2_true, keAnd2_false, eOr_at, keOr_some, keOr2_true, keOr2_false, eNot_at, keNot_some, keNot2_some, eIf_at, keIf_true, keIf_false, aNil_at, aCons_at, ka1_some, ka2_some, eTup_at, kTup_0, kTup_1, kTup_2, kTup_3, kTup_4, kTup_5, kTup_6, eLst_at, kLst_0, kLst_1, kLst_2, kLst_3, kLst_4, eDic0_at, eCall_at, kCall_some, o1_at, isiO_at, kIsi_some, tyD_non, tyD_bl, tyD_int, tyD_str, tyD_tup, eBM_at, kbm1_some, kbm2_some, eSl_at, ks2_some, ks3_some, ks4_some, oNone_at, oSome_at, kSome_int, slO_str, sSeq_at, kSeq_nx, kSeq_rt, kSeq_bk, kSeq_ct, sNext_at, sBreak_at, sCont_at, sRetN_at, sRet_at, kRet_some, sExpr_at, kExpr_some, sSet_at, kSet_some, sIf_at, kIf_true, kIf_false, sPar2_k, kPar2_some, sPar3_k, kPar3_some, sAsg_at, kAsg_some, kAsg2_some, mName_at, mTup_2, mTup_3, mCons_at, kmCons_some, mNil_at, sPut_at, kp1_some, kp2_some, kp3_some, kp4_some, kFn_rt, kFn_nx, mkFn_0, mkFn_1, mkFn_2, mkFn_3, mkFn_4, mkFn_5, sWhile_at, List.getElem?_cons_zero, List.getElem?_cons_succ, List.set_cons_zero, List.set_cons_succ, List.replicate_succ, List.replicate_zero, Nat.reduceSub, Bool.not_true, Bool.not_false, ite_true, ite_false, if_true, if_false, reduceCtorEq, e0, e1, e2, lenO_lst hc', List.length_map, c0, decide_false, m1, cDv_2, cMd_2, gDv_2, gMd_2, cMr_2, cMl_2, cDv_3, cMd_3, gDv_3, gMd_3, cMr_3, cMl_3, cDv_4, cMd_4, gDv_4, gMd_4, cMr_4, cMl_4, cDv_5, cMd_5, gDv_5, gMd_5, cMr_5, cMl_5, cDv_7, cMd_7, gDv_7, gMd_7, cMr_7, cMl_7, cDv_8, cMd_8, gDv_8, gMd_8, cMr_8, cMl_8, cDv_9, cMd_9, gDv_9, gMd_9, cMr_9, cMl_9, cDv_12, cMd_12, gDv_12, gMd_12, cMr_12, cMl_12, cDv_16, cMd_16, gDv_16, gMd_16, cMr_16, cMl_16, cDv_28, cMd_28, gDv_28, gMd_28, cMr_28, cMl_28, cDv_140, cMd_140, gDv_140, gMd_140, cMr_140, cMl_140, cDv_900, cMd_900, gDv_900, gMd_900, cMr_900, cMl_900, cDv_31, cMd_31, gDv_31, gMd_31, cMr_31, cMl_31, cDv_7919, cMd_7919, gDv_7919, gMd_7919, cMr_7919, cMl_7919, cDv_48271, cMd_48271, gDv_48271, gMd_48271, cMr_48271, cMl_48271, cDv_2147483647, cMd_2147483647, gDv_2147483647, gMd_2147483647, cMr_2147483647, cMl_2147483647]

/-- a frame that may be asked -/
def FrOk (st : Sto) (fr : D) : Prop := PD 50 fr ∨ ∃ p q a, fr = .ref p ∧ st[p]? = some (.lst [.str a, .ref q]) ∧ st[q]? = some (.lst [.int 1]) ∧ 41 < p ∧ 41 < q
theorem FrOk.self {st : Sto} {fr : D} (h : FrOk st fr) : eqO st fr fr = some true := by
  rcases h with h | ⟨p, q, a, rfl, h1, h2, _, _⟩
  · exact eqO_self h
  · have r1 : rdL st p = some [.str a, .ref q] := by
      unfold rdL
      rw [h1]
    have r2 : rdL st q = some [.int 1] := by
      unfold rdL
      rw [h2]
    simp [eqO, DEEP, toP, mapO, r1, r2, PyData.eqv, PyData.eqvAll]
structure Iv (ns cs : List Int) (k : Nat) (gvs : List Gv) (ths : List Nat) (st : Sto) : Prop where
  a : st[0]? = some (.fz (ns.map D.int))
  b : st[1]? = some (.lst (cs.map D.int))
  c : st[2]? = some (.lst [.int (k : Nat)])
  w : Wd ths st
  l : st[41]? = some (.lst (gvs.map fun v => D.ref v.d))
  g : ∀ v ∈ gvs, GvOk ths st v ∧ FrOk st v.fr ∧ 41 < v.d ∧ 41 < v.r
  ne : ∀ (a b : Nat) (v v' : Gv), gvs[a]? = some v → gvs[b]? = some v' → a ≠ b → v.d ≠ v'.d ∧ v.r ≠ v'.r
theorem FrOk.only {st st' : Sto} {fr : D} {J : List Nat} (h : FrOk st fr) (o : Only J st st') (hj : ∀ n ds, st[n]? = some (.lst ds) → 41 < n → n ∉ J) : FrOk st' fr := by
  rcases h with h | ⟨p, q, a, rfl, h1, h2, h3, h4⟩
  · exact .inl h
  · exact .inr ⟨p, q, a, rfl, o p _ (hj p _ h1 h3) h1, o q _ (hj q _ h2 h4) h2, h3, h4⟩
theorem set_same {α : Type} {x : α} : ∀ {xs : List α} {i : Nat}, xs[i]? = some x → xs.set i x = xs
  | [], _, h => by simp at h
  | y :: r, 0, h => by
    simp at h
    rw [h]
    rfl
  | y :: r, i + 1, h => by
    rw [List.set_cons_succ, set_same (xs := r) (i := i) (by simpa using h)]
/-- what changes is below 41 and no part of it -/
theorem Iv.low {ns cs : List Int} {k : Nat} {gvs : List Gv} {ths more : List Nat} {st st' : Sto} (h : Iv ns cs k gvs ths st) (o : Only [7] st st') (w : Wd (ths ++ more) st') : Iv ns cs k gvs (ths ++ more) st' :=
  ⟨o _ _ (by decide) h.a, o _ _ (by decide) h.b, o _ _ (by decide) h.c, w, o _ _ (by decide) h.l, fun v hv => by
    obtain ⟨h1, h2, h3, h4⟩ := h.g v hv
    exact ⟨h1.grow o (fun z => by have := List.mem_singleton.mp z; omega) (fun z => by have := List.mem_singleton.mp z; omega), h2.only o fun n ds _ hn z => by have := List.mem_singleton.mp z; omega, h3, h4⟩, h.ne⟩
theorem Iv.grow {ns cs : List Int} {k : Nat} {gvs : List Gv} {ths : List Nat} {st : Sto} (h : Iv ns cs k gvs ths st) (g : Sto) : Iv ns cs k gvs ths (st ++ g) := by
  have := h.low (more := []) (Only.grow (g := g)) (by rw [List.append_nil]; exact h.w.grow)
  rwa [List.append_nil] at this
theorem Iv.draw {ns cs : List Int} {k : Nat} {gvs : List Gv} {ths : List Nat} {st : Sto} (h : Iv ns cs k gvs ths st) : Iv ns cs (k + 1) gvs ths (st.set 2 (.lst [.int ((k + 1 : Nat) : Int)])) := by
  have o : Only [2] st (st.set 2 (.lst [.int ((k + 1 : Nat) : Int)])) := Only.set (.head _)
  refine ⟨o _ _ (by decide) h.a, o _ _ (by decide) h.b, List.getElem?_set_self (List.getElem?_eq_some_iff.mp h.c).1, h.w.set2, o _ _ (by decide) h.l, fun v hv => ?_, h.ne⟩
  obtain ⟨h1, h2, h3, h4⟩ := h.g v hv
  have := h1.grow (more := []) o (fun z => by have := List.mem_singleton.mp z; omega) (fun z => by have := List.mem_singleton.mp z; omega)
  rw [List.append_nil] at this
  exact ⟨this, h2.only o fun n ds _ hn z => by have := List.mem_singleton.mp z; omega, h3, h4⟩
theorem Iv.turn {ns cs : List Int} {k : Nat} {gvs : List Gv} {ths : List Nat} {st st' : Sto} (h : Iv ns cs k gvs ths st) {a : Nat} {v : Gv} (hv : gvs[a]? = some v) (R : Res ths st v st') : ∃ gvs', Iv ns cs k gvs' ths st' ∧ gvs'.length = gvs.length := by
  obtain ⟨v', w', g', ⟨s1, s2, s3, s4, s5⟩, o⟩ := R
  obtain ⟨h1, h2, h3, h4⟩ := h.g v (List.mem_of_getElem? hv)
  have ha : a < gvs.length := (List.getElem?_eq_some_iff.mp hv).1
  have nj : ∀ n, n ≤ 41 → n ∉ [v.d, v.r] := fun n hn z => by
    rcases List.mem_cons.mp z with e | e
    · omega
    · have := List.mem_singleton.mp e
      omega
  have hm : (gvs.set a v').map (fun v => D.ref v.d) = gvs.map fun v => D.ref v.d := by
    rw [List.map_set, s1]
    have : (gvs.map fun v => D.ref v.d)[a]? = some (.ref v.d) := by rw [List.getElem?_map, hv]; rfl
    exact set_same this
  refine ⟨gvs.set a v', ⟨o _ _ (nj _ (by decide)) h.a, o _ _ (nj _ (by decide)) h.b, o _ _ (nj _ (by decide)) h.c, w', by rw [hm]; exact o _ _ (nj _ (by decide)) h.l, fun u hu => ?_, fun b c u u' hb hc hbc => ?_⟩, by rw [List.length_set]⟩
  · obtain ⟨b, hb⟩ := List.mem_iff_getElem?.mp hu
    have fro : ∀ fr, FrOk st fr → FrOk st' fr := fun fr hf => hf.only o fun n ds hn _ z => by
      rcases List.mem_cons.mp z with e | e
      · rw [e, h1.d] at hn
        cases hn
      · rw [List.mem_singleton.mp e, h1.r] at hn
        cases hn
    by_cases e : a = b
    · subst e
      rw [List.getElem?_set_self ha] at hb
      cases hb
      exact ⟨g', by rw [s4]; exact fro _ h2, by rw [s1]; exact h3, by rw [s2]; exact h4⟩
    · rw [List.getElem?_set_ne e] at hb
      obtain ⟨u1, u2, u3, u4⟩ := h.g u (List.mem_of_getElem? hb)
      obtain ⟨n1, n2⟩ := h.ne a b v u hv hb e
      have := u1.grow (more := []) o (fun z => by
        rcases List.mem_cons.mp z with e | e
        · exact n1 e.symm
        · have x := u1.d
          rw [List.mem_singleton.mp e, h1.r] at x
          cases x) (fun z => by
        rcases List.mem_cons.mp z with e | e
        · have x := u1.r
          rw [e, h1.d] at x
          cases x
        · exact n2 (List.mem_singleton.mp e).symm)
      rw [List.append_nil] at this
      exact ⟨this, fro _ u2, u3, u4⟩
  · have old : ∀ (b : Nat) (u : Gv), (gvs.set a v')[b]? = some u → ∃ u0, gvs[b]? = some u0 ∧ u.d = u0.d ∧ u.r = u0.r := fun b u hb => by
      by_cases e : a = b
      · subst e
        rw [List.getElem?_set_self ha] at hb
        cases hb
        exact ⟨v, hv, s1, s2⟩
      · rw [List.getElem?_set_ne e] at hb
        exact ⟨u, hb, rfl, rfl⟩
    obtain ⟨u0, b1, b2, b3⟩ := old b u hb
    obtain ⟨u0', c1, c2, c3⟩ := old c u' hc
    obtain ⟨n1, n2⟩ := h.ne b c u0 u0' b1 c1 hbc
    exact ⟨by rw [b2, c2]; exact n1, by rw [b3, c3]; exact n2⟩
/-- one deed -/
theorem deed_is {ns cs : List Int} {k : Nat} {gvs : List Gv} {ths : List Nat} {st : Sto} (h : Iv ns cs k gvs ths st) (hk : k < 1000) (hcl : (cs.length : Int).natAbs.log2 < 9000) (hg : 0 < gvs.length) (hz : ths.length < 50000) :
    ∃ gvs' ths' st', F_l_deed [.ref 4, .ref 41, .ref 1, .ref 2] st = some (.bl true, st') ∧ Iv ns cs (k + 1) gvs' ths' st' ∧ gvs'.length = gvs.length ∧ ths'.length = ths.length + 1 := by
  have hb : rdL st 1 = some (cs.map D.int) := by
    unfold rdL
    rw [h.b]
  have hc : myL st 2 = some [.int (k : Nat)] := by
    unfold myL
    rw [h.c]
  obtain ⟨n, n0, n1, e1⟩ := cell hb hc (by decide) hk hcl
  have h1 := h.draw
  generalize st.set 2 (.lst [.int ((k + 1 : Nat) : Int)]) = st1 at e1 h1
  have hl : rdL st1 41 = some (gvs.map fun v => D.ref v.d) := by
    unfold rdL
    rw [h1.l]
  have g0 : (0 : Int) < (gvs.length : Int) := by omega
  have q1 : gMod n (gvs.length : Int) = n % (gvs.length : Int) := by
    unfold gMod
    rw [if_pos g0]
  have q2 : cMod n (gvs.length : Int) = true := decide_eq_true (by omega)
  have i0 : 0 ≤ n % (gvs.length : Int) := Int.emod_nonneg _ (by omega)
  have i1 : n % (gvs.length : Int) < (gvs.length : Int) := Int.emod_lt_of_pos _ g0
  obtain ⟨a, ha⟩ := Int.eq_ofNat_of_zero_le i0
  have hal : a < gvs.length := by omega
  have hv : gvs[a]? = some gvs[a] := List.getElem?_eq_getElem hal
  have e2 : ixO (.ref 41) (.int (n % (gvs.length : Int))) st1 = some (.ref gvs[a].d) := by
    rw [ixO_lst hl, ha]
    exact L2.atI_nat (by rw [List.getElem?_map, hv]; rfl)
  have r0 : 0 ≤ n / 5 % 3 := by omega
  have r1 : n / 5 % 3 < 3 := by omega
  obtain ⟨x, hx, e⟩ := atI_in (xs := [D.str [70, 97, 117, 108, 116], .str [69, 110, 100, 70, 97, 117, 108, 116], .str [83, 104, 117, 116, 70, 97, 117, 108, 116]]) r0 (by simpa using r1)
  have hx' : ∃ nm kk, x = .str nm ∧ FK kk ∧ valD GIV (.inr (mkS nm)) = some (th kk) := by
    simp only [List.mem_cons, List.not_mem_nil, or_false] at hx
    rcases hx with rfl | rfl | rfl
    · exact ⟨_, 1, rfl, .inl rfl, by rfl⟩
    · exact ⟨_, 8, rfl, .inr (.inl rfl), by rfl⟩
    · exact ⟨_, 9, rfl, .inr (.inr rfl), by rfl⟩
  obtain ⟨nm, kk, rfl, hkk, hnm⟩ := hx'
  have e4 : ixO (.ref st1.length) (.int (n / 5 % 3)) (st1 ++ [.lst [D.str [70, 97, 117, 108, 116], .str [69, 110, 100, 70, 97, 117, 108, 116], .str [83, 104, 117, 116, 70, 97, 117, 108, 116]]]) = some (.str nm) := ixO_end.trans e
  have h2 := h1.grow [.lst [D.str [70, 97, 117, 108, 116], .str [69, 110, 100, 70, 97, 117, 108, 116], .str [83, 104, 117, 116, 70, 97, 117, 108, 116]]]
  obtain ⟨st3, f, e5, w3, hf, o3⟩ := made_is h2.w (by omega) hkk hnm
  have h3 := h2.low o3 w3
  obtain ⟨v1, _, _, _⟩ := h3.g _ (List.mem_of_getElem? hv)
  obtain ⟨ρ, st4, e6, R⟩ := dend_is w3 v1 hkk (j := ths.length) (by simp) hf (n / 5) (by omega) (some (.ref 41)) (some (.ref 1)) (some (.ref 2)) (some (.int n))
  obtain ⟨gvs', h4, hlen⟩ := h3.turn hv R
  refine ⟨gvs', _, st4, ?_, h4, hlen, by simp⟩
  simp only [F_l_deed, deed_eq, eVar_at, kVar_some, eC_at, eBin_at, k2_some, k3_some, eUn_at, k1_some, kVal_some, kBl_some, kEq_at, kBlN_some, kNe_at, kIn_at, kNotIn_at, kIx_at, ixO_tup, kLt_int, kLe_int, kGt_int, kGe_int, kLt_str, kLe_str, kGt_str, kGe_str, kIs_non, kIs_bl, kIs_int, kIs_str, kIs_tup, kIs_ref, kIsNot_non, kIsNot_bl, kIsNot_int, kIsNot_str, kIsNot_tup, kIsNot_ref, opAdd_int, opAdd_str, opSub_int, opMul_int, opDiv_int, opMod_int, opPow_int, opAnd_int, opOr_int, opNeg_int, eChain_at, kc1_some, kc2_some, kc3_true, kc3_false, kc4_some, tOf_at, kTru_some, kTru2_some, truD_non, truD_bl, truD_int, truD_tup, tAnd_at, kAnd_true, kAnd_false, tOr_at, kOr_true, kOr_false, tNot_at, kNot_some, tYes_at, eAnd_at, keAnd_some, keAnd2_true, keAnd2_false, eOr_at, keOr_some, keOr2_true, keOr2_false, eNot_at, keNot_some, keNot2_some, eIf_at, keIf_true, keIf_false, aNil_at, aCons_at, ka1_some, ka2_some, eTup_at, kTup_0, kTup_1, kTup_2, kTup_3, kTup_4, kTup_5, kTup_6, eLst_at, kLst_0, kLst_1, kLst_2, kLst_3, kLst_4, eDic0_at, eCall_at, kCall_some, o1_at, isiO_at, kIsi_some, tyD_non, tyD_bl, tyD_int, tyD_str, tyD_tup, eBM_at, kbm1_some, kbm2_some, eSl_at, ks2_some, ks3_some, ks4_some, oNone_at, oSome_at, kSome_int, slO_str, sSeq_at, kSeq_nx, kSeq_rt, kSeq_bk, kSeq_ct, sNext_at, sBreak_at, sCont_at, sRetN_at, sRet_at, kRet_some, sExpr_at, kExpr_some, sSet_at, kSet_some, sIf_at, kIf_true, kIf_false, sPar2_k, kPar2_some, sPar3_k, kPar3_some, sAsg_at, kAsg_some, kAsg2_some, mName_at, mTup_2, mTup_3, mCons_at, kmCons_some, mNil_at, sPut_at, kp1_some, kp2_some, kp3_some, kp4_some, kFn_rt, kFn_nx, mkFn_0, mkFn_1, mkFn_2, mkFn_3, mkFn_4, mkFn_5, sWhile_at, List.getElem?_cons_zero, List.getElem?_cons_succ, List.set_cons_zero, List.set_cons_succ, List.replicate_succ, List.replicate_zero, Nat.reduceSub, Bool.not_true, Bool.not_false, ite_true, ite_false, if_true, if_false, reduceCtorEq, fldM_at, sFldM_at, kSF1_some, kSF2_some, kSF3_some, sFldAddM_at, kSA1_some, kSA2_int, eMake_at, kMk1_some, kMk2_some, isCM_at, isCO_non, eGet1_at, kG12_some, kG13_some, eGet2_at, kG22_some, kG23_some, eCallD_at, kCallD_some, eKdx_at, kKdx_some, kIsB_at, atI0, atI1, eq_str, ixO_tup, lenO_tup, mTup_2, eqO_int, List.cons.injEq, Nat.reduceEqDiff, decide_false, decide_true, and_false, and_true, false_and, true_and, Bool.or_false, Bool.or_true, Bool.true_or, Bool.false_or, Bool.and_true, Bool.and_false, Bool.false_and, Bool.true_and, Int.reduceLE, Int.reduceLT, cDv_2, cMd_2, gDv_2, gMd_2, cDv_3, cMd_3, gDv_3, gMd_3, cDv_4, cMd_4, gDv_4, gMd_4, cDv_5, cMd_5, gDv_5, gMd_5, cDv_7, cMd_7, gDv_7, gMd_7, cDv_8, cMd_8, gDv_8, gMd_8, cDv_9, cMd_9, gDv_9, gMd_9, cDv_12, cMd_12, gDv_12, gMd_12, cDv_16, cMd_16, gDv_16, gMd_16, cDv_28, cMd_28, gDv_28, gMd_28, cDv_140, cMd_140, gDv_140, gMd_140, cDv_900, cMd_900, gDv_900, gMd_900, e1, lenO_lst hl, List.length_map, q1, q2, e2, e4, List.cons_append, List.nil_append, e5, e6]
end Math

set_option maxRecDepth 100000
set_option maxHeartbeats 4000000
namespace Math
open MP Text PySem
section
variable {ns cs : List Int} {k : Nat} {gvs : List Gv} {ths : List Nat} {st : Sto}
theorem Iv.rd (h : Iv ns cs k gvs ths st) : rdL st 41 = some (gvs.map fun v => D.ref v.d) := by
  unfold rdL
  rw [h.l]
abbrev rhoL (x0 x5 x6 x7 x8 x9 x10 x11 : Option D) : Rho := [x0, some (.ref 1), some (.ref 2), some (.ref 4), some (.ref 41), x5, x6, x7, x8, x9, x10, x11]
theorem look_is (h : Iv ns cs k gvs ths st) (x0 x5 x6 x7 x8 x9 x10 x11 : Option D) : ∃ y, sFor (iV (eVar 4)) (mName 10) uF_law_2 (rhoL x0 x5 x6 x7 x8 x9 x10 x11) st = some (.nx, rhoL x0 x5 x6 x7 x8 x9 y x11, st) := by
  rw [sFor_runC (iV_lst (k := 41) (st' := st) rfl h.rd)]
  obtain ⟨ρ', e, y, rfl⟩ := loopF_still (m := mName 10) (u := uF_law_2) (chk := fun s => rdL s 41 = some (gvs.map fun v => D.ref v.d)) h.rd (fun ρ => ∃ y, ρ = rhoL x0 x5 x6 x7 x8 x9 y x11) (gvs.map fun v => D.ref v.d) (rhoL x0 x5 x6 x7 x8 x9 x10 x11) (fun d hd ρ hp => by
    obtain ⟨y, rfl⟩ := hp
    obtain ⟨v, hv, rfl⟩ := List.mem_map.mp hd
    obtain ⟨g1, g2, _, _⟩ := h.g v hv
    have s1 := state_is h.w g1.i g1.r
    have s2 := frame_is h.w g1.i g1.r
    have q1 : eqO st (.str v.s) (.str v.s) = some true := eqO_self trivial
    have q2 := g2.self
    refine ⟨_, rhoL x0 x5 x6 x7 x8 x9 (some (.ref v.d)) x11, rfl, ?_, _, rfl⟩
    simp only [uF_law_2, eVar_at, kVar_some, eC_at, eBin_at, k2_some, k3_some, eUn_at, k1_some, kVal_some, kBl_some, kEq_at, kBlN_some, kNe_at, kIn_at, kNotIn_at, kIx_at, ixO_tup, kLt_int, kLe_int, kGt_int, kGe_int, kLt_str, kLe_str, kGt_str, kGe_str, kIs_non, kIs_bl, kIs_int, kIs_str, kIs_tup, kIs_ref, kIsNot_non, kIsNot_bl, kIsNot_int, kIsNot_str, kIsNot_tup, kIsNot_ref, opAdd_int, opAdd_str, opSub_int, opMul_int, opDiv_int, opMod_int, opPow_int, opAnd_int, opOr_int, opNeg_int, eChain_at, kc1_some, kc2_some, kc3_true, kc3_false, kc4_some, tOf_at, kTru_some, kTru2_some, truD_non, truD_bl, truD_int, truD_tup, tAnd_at, kAnd_true, kAnd_false, tOr_at, kOr_true, kOr_false, tNot_at, kNot_some, tYes_at, eAnd_at, keAnd_some, keAnd2_true, keAnd2_false, eOr_at, keOr_some, keOr2_true, keOr2_false, eNot_at, keNot_some, keNot2_some, eIf_at, keIf_true, keIf_false, aNil_at, aCons_at, ka1_some, ka2_some, eTup_at, kTup_0, kTup_1, kTup_2, kTup_3, kTup_4, kTup_5, kTup_6, eLst_at, kLst_0, kLst_1, kLst_2, kLst_3, kLst_4, eDic0_at, eCall_at, kCall_some, o1_at, isiO_at, kIsi_some, tyD_non, tyD_bl, tyD_int, tyD_str, tyD_tup, eBM_at, kbm1_some, kbm2_some, eSl_at, ks2_some, ks3_some, ks4_some, oNone_at, oSome_at, kSome_int, slO_str, sSeq_at, kSeq_nx, kSeq_rt, kSeq_bk, kSeq_ct, sNext_at, sBreak_at, sCont_at, sRetN_at, sRet_at, kRet_some, sExpr_at, kExpr_some, sSet_at, kSet_some, sIf_at, kIf_true, kIf_false, sPar2_k, kPar2_some, sPar3_k, kPar3_some, sAsg_at, kAsg_some, kAsg2_some, mName_at, mTup_2, mTup_3, mCons_at, kmCons_some, mNil_at, sPut_at, kp1_some, kp2_some, kp3_some, kp4_some, kFn_rt, kFn_nx, mkFn_0, mkFn_1, mkFn_2, mkFn_3, mkFn_4, mkFn_5, sWhile_at, List.getElem?_cons_zero, List.getElem?_cons_succ, List.set_cons_zero, List.set_cons_succ, List.replicate_succ, List.replicate_zero, Nat.reduceSub, Bool.not_true, Bool.not_false, ite_true, ite_false, if_true, if_false, reduceCtorEq, fldM_at, sFldM_at, kSF1_some, kSF2_some, kSF3_some, sFldAddM_at, kSA1_some, kSA2_int, eMake_at, kMk1_some, kMk2_some, isCM_at, isCO_non, eGet1_at, kG12_some, kG13_some, eGet2_at, kG22_some, kG23_some, eCallD_at, kCallD_some, eKdx_at, kKdx_some, kIsB_at, atI0, atI1, eq_str, ixO_tup, lenO_tup, mTup_2, eqO_int, List.cons.injEq, Nat.reduceEqDiff, decide_false, decide_true, and_false, and_true, false_and, true_and, Bool.or_false, Bool.or_true, Bool.true_or, Bool.false_or, Bool.and_true, Bool.and_false, Bool.false_and, Bool.true_and, Int.reduceLE, Int.reduceLT, cDv_2, cMd_2, gDv_2, gMd_2, cDv_3, cMd_3, gDv_3, gMd_3, cDv_4, cMd_4, gDv_4, gMd_4, cDv_5, cMd_5, gDv_5, gMd_5, cDv_7, cMd_7, gDv_7, gMd_7, cDv_8, cMd_8, gDv_8, gMd_8, cDv_9, cMd_9, gDv_9, gMd_9, cDv_12, cMd_12, gDv_12, gMd_12, cDv_16, cMd_16, gDv_16, gMd_16, cDv_28, cMd_28, gDv_28, gMd_28, cDv_140, cMd_140, gDv_140, gMd_140, cDv_900, cMd_900, gDv_900, gMd_900, g1.ix_giver, g1.ix_state, g1.ix_frame, s1, s2, q1, q2]) ⟨x10, rfl⟩
  exact ⟨y, e⟩
theorem turn3 (h : Iv ns cs k gvs ths st) (hk : k < 1000) (hcl : (cs.length : Int).natAbs.log2 < 9000) (hg : 0 < gvs.length) (hz : ths.length < 50000) (x0 x5 x6 x7 x8 x9 x10 x11 : Option D) :
    ∃ gvs' ths' st' y, uF_law_3 (rhoL x0 x5 x6 x7 x8 x9 x10 x11) st = some (.nx, rhoL x0 x5 x6 x7 x8 x9 y x11, st') ∧ Iv ns cs (k + 1) gvs' ths' st' ∧ gvs'.length = gvs.length ∧ ths'.length = ths.length + 1 := by
  obtain ⟨gvs', ths', st', e, h', l1, l2⟩ := deed_is h hk hcl hg hz
  obtain ⟨y, e2⟩ := look_is h' x0 x5 x6 x7 x8 x9 x10 x11
  refine ⟨gvs', ths', st', y, ?_, h', l1, l2⟩
  simp only [uF_law_3, eVar_at, kVar_some, eC_at, eBin_at, k2_some, k3_some, eUn_at, k1_some, kVal_some, kBl_some, kEq_at, kBlN_some, kNe_at, kIn_at, kNotIn_at, kIx_at, ixO_tup, kLt_int, kLe_int, kGt_int, kGe_int, kLt_str, kLe_str, kGt_str, kGe_str, kIs_non, kIs_bl, kIs_int, kIs_str, kIs_tup, kIs_ref, kIsNot_non, kIsNot_bl, kIsNot_int, kIsNot_str, kIsNot_tup, kIsNot_ref, opAdd_int, opAdd_str, opSub_int, opMul_int, opDiv_int, opMod_int, opPow_int, opAnd_int, opOr_int, opNeg_int, eChain_at, kc1_some, kc2_some, kc3_true, kc3_false, kc4_some, tOf_at, kTru_some, kTru2_some, truD_non, truD_bl, truD_int, truD_tup, tAnd_at, kAnd_true, kAnd_false, tOr_at, kOr_true, kOr_false, tNot_at, kNot_some, tYes_at, eAnd_at, keAnd_some, keAnd2_true, keAnd2_false, eOr_at, keOr_some, keOr2_true, keOr2_false, eNot_at, keNot_some, keNot2_some, eIf_at, keIf_true, keIf_false, aNil_at, aCons_at, ka1_some, ka2_some, eTup_at, kTup_0, kTup_1, kTup_2, kTup_3, kTup_4, kTup_5, kTup_6, eLst_at, kLst_0, kLst_1, kLst_2, kLst_3, kLst_4, eDic0_at, eCall_at, kCall_some, o1_at, isiO_at, kIsi_some, tyD_non, tyD_bl, tyD_int, tyD_str, tyD_tup, eBM_at, kbm1_some, kbm2_some, eSl_at, ks2_some, ks3_some, ks4_some, oNone_at, oSome_at, kSome_int, slO_str, sSeq_at, kSeq_nx, kSeq_rt, kSeq_bk, kSeq_ct, sNext_at, sBreak_at, sCont_at, sRetN_at, sRet_at, kRet_some, sExpr_at, kExpr_some, sSet_at, kSet_some, sIf_at, kIf_true, kIf_false, sPar2_k, kPar2_some, sPar3_k, kPar3_some, sAsg_at, kAsg_some, kAsg2_some, mName_at, mTup_2, mTup_3, mCons_at, kmCons_some, mNil_at, sPut_at, kp1_some, kp2_some, kp3_some, kp4_some, kFn_rt, kFn_nx, mkFn_0, mkFn_1, mkFn_2, mkFn_3, mkFn_4, mkFn_5, sWhile_at, List.getElem?_cons_zero, List.getElem?_cons_succ, List.set_cons_zero, List.set_cons_succ, List.replicate_succ, List.replicate_zero, Nat.reduceSub, Bool.not_true, Bool.not_false, ite_true, ite_false, if_true, if_false, reduceCtorEq, fldM_at, sFldM_at, kSF1_some, kSF2_some, kSF3_some, sFldAddM_at, kSA1_some, kSA2_int, eMake_at, kMk1_some, kMk2_some, isCM_at, isCO_non, eGet1_at, kG12_some, kG13_some, eGet2_at, kG22_some, kG23_some, eCallD_at, kCallD_some, eKdx_at, kKdx_some, kIsB_at, atI0, atI1, eq_str, ixO_tup, lenO_tup, mTup_2, eqO_int, List.cons.injEq, Nat.reduceEqDiff, decide_false, decide_true, and_false, and_true, false_and, true_and, Bool.or_false, Bool.or_true, Bool.true_or, Bool.false_or, Bool.and_true, Bool.and_false, Bool.false_and, Bool.true_and, Int.reduceLE, Int.reduceLT, cDv_2, cMd_2, gDv_2, gMd_2, cDv_3, cMd_3, gDv_3, gMd_3, cDv_4, cMd_4, gDv_4, gMd_4, cDv_5, cMd_5, gDv_5, gMd_5, cDv_7, cMd_7, gDv_7, gMd_7, cDv_8, cMd_8, gDv_8, gMd_8, cDv_9, cMd_9, gDv_9, gMd_9, cDv_12, cMd_12, gDv_12, gMd_12, cDv_16, cMd_16, gDv_16, gMd_16, cDv_28, cMd_28, gDv_28, gMd_28, cDv_140, cMd_140, gDv_140, gMd_140, cDv_900, cMd_900, gDv_900, gMd_900, e, e2]
end
theorem turns3 {ns cs : List Int} (hcl : (cs.length : Int).natAbs.log2 < 9000) (x0 x5 x6 x7 x8 x11 : Option D) : ∀ (ds : List D) (k : Nat) (gvs : List Gv) (ths : List Nat) (st : Sto), Iv ns cs k gvs ths st → 0 < gvs.length → k + ds.length < 1000 → ths.length + ds.length < 40000 → ∀ x9 x10 : Option D,
    ∃ gvs' ths' st' k' y9 y10, loopF (fun _ => True) (mName 9) uF_law_3 ds (rhoL x0 x5 x6 x7 x8 x9 x10 x11) st = some (.nx, rhoL x0 x5 x6 x7 x8 y9 y10 x11, st') ∧ Iv ns cs k' gvs' ths' st' ∧ gvs'.length = gvs.length ∧ ths'.length = ths.length + ds.length
  | [], k, gvs, ths, st, h, _, _, _, x9, x10 => ⟨gvs, ths, st, k, x9, x10, loopF_nil, h, rfl, rfl⟩
  | d :: r, k, gvs, ths, st, h, hg, hk, hz, x9, x10 => by
    rw [List.length_cons] at hk hz
    obtain ⟨gvs1, ths1, st1, y, e1, h1, l1, l2⟩ := turn3 h (by omega) hcl hg (by omega) x0 x5 x6 x7 x8 (some d) x10 x11
    obtain ⟨gvs2, ths2, st2, k2, y9, y10, e2, h2, l3, l4⟩ := turns3 hcl x0 x5 x6 x7 x8 x11 r (k + 1) gvs1 ths1 st1 h1 (by omega) (by omega) (by omega) (some d) y
    refine ⟨gvs2, ths2, st2, k2, y9, y10, ?_, h2, by omega, by rw [List.length_cons]; omega⟩
    simp only [loopF_cons, kF1_some, eVar_at, kVar_some, eC_at, eBin_at, k2_some, k3_some, eUn_at, k1_some, kVal_some, kBl_some, kEq_at, kBlN_some, kNe_at, kIn_at, kNotIn_at, kIx_at, ixO_tup, kLt_int, kLe_int, kGt_int, kGe_int, kLt_str, kLe_str, kGt_str, kGe_str, kIs_non, kIs_bl, kIs_int, kIs_str, kIs_tup, kIs_ref, kIsNot_non, kIsNot_bl, kIsNot_int, kIsNot_str, kIsNot_tup, kIsNot_ref, opAdd_int, opAdd_str, opSub_int, opMul_int, opDiv_int, opMod_int, opPow_int, opAnd_int, opOr_int, opNeg_int, eChain_at, kc1_some, kc2_some, kc3_true, kc3_false, kc4_some, tOf_at, kTru_some, kTru2_some, truD_non, truD_bl, truD_int, truD_tup, tAnd_at, kAnd_true, kAnd_false, tOr_at, kOr_true, kOr_false, tNot_at, kNot_some, tYes_at, eAnd_at, keAnd_some, keAnd2_true, keAnd2_false, eOr_at, keOr_some, keOr2_true, keOr2_false, eNot_at, keNot_some, keNot2_some, eIf_at, keIf_true, keIf_false, aNil_at, aCons_at, ka1_some, ka2_some, eTup_at, kTup_0, kTup_1, kTup_2, kTup_3, kTup_4, kTup_5, kTup_6, eLst_at, kLst_0, kLst_1, kLst_2, kLst_3, kLst_4, eDic0_at, eCall_at, kCall_some, o1_at, isiO_at, kIsi_some, tyD_non, tyD_bl, tyD_int, tyD_str, tyD_tup, eBM_at, kbm1_some, kbm2_some, eSl_at, ks2_some, ks3_some, ks4_some, oNone_at, oSome_at, kSome_int, slO_str, sSeq_at, kSeq_nx, kSeq_rt, kSeq_bk, kSeq_ct, sNext_at, sBreak_at, sCont_at, sRetN_at, sRet_at, kRet_some, sExpr_at, kExpr_some, sSet_at, kSet_some, sIf_at, kIf_true, kIf_false, sPar2_k, kPar2_some, sPar3_k, kPar3_some, sAsg_at, kAsg_some, kAsg2_some, mName_at, mTup_2, mTup_3, mCons_at, kmCons_some, mNil_at, sPut_at, kp1_some, kp2_some, kp3_some, kp4_some, kFn_rt, kFn_nx, mkFn_0, mkFn_1, mkFn_2, mkFn_3, mkFn_4, mkFn_5, sWhile_at, List.getElem?_cons_zero, List.getElem?_cons_succ, List.set_cons_zero, List.set_cons_succ, List.replicate_succ, List.replicate_zero, Nat.reduceSub, Bool.not_true, Bool.not_false, ite_true, ite_false, if_true, if_false, reduceCtorEq, fldM_at, sFldM_at, kSF1_some, kSF2_some, kSF3_some, sFldAddM_at, kSA1_some, kSA2_int, eMake_at, kMk1_some, kMk2_some, isCM_at, isCO_non, eGet1_at, kG12_some, kG13_some, eGet2_at, kG22_some, kG23_some, eCallD_at, kCallD_some, eKdx_at, kKdx_some, kIsB_at, atI0, atI1, eq_str, ixO_tup, lenO_tup, mTup_2, eqO_int, List.cons.injEq, Nat.reduceEqDiff, decide_false, decide_true, and_false, and_true, false_and, true_and, Bool.or_false, Bool.or_true, Bool.true_or, Bool.false_or, Bool.and_true, Bool.and_false, Bool.false_and, Bool.true_and, Int.reduceLE, Int.reduceLT, cDv_2, cMd_2, gDv_2, gMd_2, cDv_3, cMd_3, gDv_3, gMd_3, cDv_4, cMd_4, gDv_4, gMd_4, cDv_5, cMd_5, gDv_5, gMd_5, cDv_7, cMd_7, gDv_7, gMd_7, cDv_8, cMd_8, gDv_8, gMd_8, cDv_9, cMd_9, gDv_9, gMd_9, cDv_12, cMd_12, gDv_12, gMd_12, cDv_16, cMd_16, gDv_16, gMd_16, cDv_28, cMd_28, gDv_28, gMd_28, cDv_140, cMd_140, gDv_140, gMd_140, cDv_900, cMd_900, gDv_900, gMd_900, e1, kF2_nx, e2]
/-! far right -/
theorem far_loop {ths : List Nat} {i r : Nat} (e : Nat) (hi : ths[i]? = some r) (hr : 41 ≤ r) : ∀ (m j : Nat) (st : Sto) (s : List Nat) (x3 : Option D), j + m = e → Wd ths st → st[r]? = some (recG (.str [99, 111, 117, 110, 116]) .non (.int (e : Nat)) (.int (j : Nat)) (.str s)) → (s = sNew ∨ s = sWaits) →
    ∃ st' s' y, loopF (fun _ => True) (mName 3) uF_l_far_right_1 (rngD (j : Nat) m) [some (.ref 4), some (.int (e : Nat)), some (th (i : Nat)), x3] st = some (.nx, [some (.ref 4), some (.int (e : Nat)), some (th (i : Nat)), y], st') ∧ Wd ths st' ∧ st'[r]? = some (recG (.str [99, 111, 117, 110, 116]) .non (.int (e : Nat)) (.int (e : Nat)) (.str s')) ∧ Only [r] st st'
  | 0, j, st, s, x3, hj, w, h, hs => ⟨st, s, x3, loopF_nil, w, by
    have z : j = e := by omega
    subst z
    exact h, Only.refl⟩
  | m + 1, j, st, s, x3, hj, w, h, hs => by
    have h4 : St4 s := by
      rcases hs with rfl | rfl
      · exact .inl rfl
      · exact .inr (.inr (.inl rfl))
    have a1 := asked_is w hi h h4
    have a2 : askA s (th (i : Nat)) = .tup [.str [103, 111], th (i : Nat), aNo] := by
      rcases hs with rfl | rfl <;> rfl
    rw [a2] at a1
    have q1 : eqO st (.tup [.str [103, 111], th (i : Nat), aNo]) (.tup [.str [103, 111], th (i : Nat), aNo]) = some true := eqO_self (pd_go .non _)
    have c1 := counted_on w hi h (by omega)
    have lr := (List.getElem?_eq_some_iff.mp h).1
    have q2 : ∀ s : Sto, eqO s (.tup [.str [118, 97, 108, 117, 101], .tup [.str [110, 117, 109, 98, 101, 114], .int (j : Nat)]]) (.tup [.str [118, 97, 108, 117, 101], .tup [.str [110, 117, 109, 98, 101, 114], .int (j : Nat)]]) = some true := fun s => eqO_self (pd_val (.num _))
    have cast : ((j : Nat) : Int) + 1 = ((j + 1 : Nat) : Int) := rfl
    rw [cast] at c1
    obtain ⟨st', s', y, e1, w', h', o'⟩ := far_loop e hi hr m (j + 1) (st.set r (recG (.str [99, 111, 117, 110, 116]) .non (.int (e : Nat)) (.int ((j + 1 : Nat) : Int)) (.str sWaits))) sWaits (some (.int (j : Nat))) (by omega) (w.set hr) (List.getElem?_set_self lr) (.inr rfl)
    refine ⟨st', s', y, ?_, w', h', (Only.set (.head _)).trans o'⟩
    have b1 : uF_l_far_right_1 [some (.ref 4), some (.int (e : Nat)), some (th (i : Nat)), some (.int (j : Nat))] st = some (.nx, [some (.ref 4), some (.int (e : Nat)), some (th (i : Nat)), some (.int (j : Nat))], st.set r (recG (.str [99, 111, 117, 110, 116]) .non (.int (e : Nat)) (.int ((j + 1 : Nat) : Int)) (.str sWaits))) := by
      simp only [uF_l_far_right_1, eVar_at, kVar_some, eC_at, eBin_at, k2_some, k3_some, eUn_at, k1_some, kVal_some, kBl_some, kEq_at, kBlN_some, kNe_at, kIn_at, kNotIn_at, kIx_at, ixO_tup, kLt_int, kLe_int, kGt_int, kGe_int, kLt_str, kLe_str, kGt_str, kGe_str, kIs_non, kIs_bl, kIs_int, kIs_str, kIs_tup, kIs_ref, kIsNot_non, kIsNot_bl, kIsNot_int, kIsNot_str, kIsNot_tup, kIsNot_ref, opAdd_int, opAdd_str, opSub_int, opMul_int, opDiv_int, opMod_int, opPow_int, opAnd_int, opOr_int, opNeg_int, eChain_at, kc1_some, kc2_some, kc3_true, kc3_false, kc4_some, tOf_at, kTru_some, kTru2_some, truD_non, truD_bl, truD_int, truD_tup, tAnd_at, kAnd_true, kAnd_false, tOr_at, kOr_true, kOr_false, tNot_at, kNot_some, tYes_at, eAnd_at, keAnd_some, keAnd2_true, keAnd2_false, eOr_at, keOr_some, keOr2_true, keOr2_false, eNot_at, keNot_some, keNot2_some, eIf_at, keIf_true, keIf_false, aNil_at, aCons_at, ka1_some, ka2_some, eTup_at, kTup_0, kTup_1, kTup_2, kTup_3, kTup_4, kTup_5, kTup_6, eLst_at, kLst_0, kLst_1, kLst_2, kLst_3, kLst_4, eDic0_at, eCall_at, kCall_some, o1_at, isiO_at, kIsi_some, tyD_non, tyD_bl, tyD_int, tyD_str, tyD_tup, eBM_at, kbm1_some, kbm2_some, eSl_at, ks2_some, ks3_some, ks4_some, oNone_at, oSome_at, kSome_int, slO_str, sSeq_at, kSeq_nx, kSeq_rt, kSeq_bk, kSeq_ct, sNext_at, sBreak_at, sCont_at, sRetN_at, sRet_at, kRet_some, sExpr_at, kExpr_some, sSet_at, kSet_some, sIf_at, kIf_true, kIf_false, sPar2_k, kPar2_some, sPar3_k, kPar3_some, sAsg_at, kAsg_some, kAsg2_some, mName_at, mTup_2, mTup_3, mCons_at, kmCons_some, mNil_at, sPut_at, kp1_some, kp2_some, kp3_some, kp4_some, kFn_rt, kFn_nx, mkFn_0, mkFn_1, mkFn_2, mkFn_3, mkFn_4, mkFn_5, sWhile_at, List.getElem?_cons_zero, List.getElem?_cons_succ, List.set_cons_zero, List.set_cons_succ, List.replicate_succ, List.replicate_zero, Nat.reduceSub, Bool.not_true, Bool.not_false, ite_true, ite_false, if_true, if_false, reduceCtorEq, fldM_at, sFldM_at, kSF1_some, kSF2_some, kSF3_some, sFldAddM_at, kSA1_some, kSA2_int, eMake_at, kMk1_some, kMk2_some, isCM_at, isCO_non, eGet1_at, kG12_some, kG13_some, eGet2_at, kG22_some, kG23_some, eCallD_at, kCallD_some, eKdx_at, kKdx_some, kIsB_at, atI0, atI1, eq_str, ixO_tup, lenO_tup, mTup_2, eqO_int, List.cons.injEq, Nat.reduceEqDiff, decide_false, decide_true, and_false, and_true, false_and, true_and, Bool.or_false, Bool.or_true, Bool.true_or, Bool.false_or, Bool.and_true, Bool.and_false, Bool.false_and, Bool.true_and, Int.reduceLE, Int.reduceLT, cDv_2, cMd_2, gDv_2, gMd_2, cDv_3, cMd_3, gDv_3, gMd_3, cDv_4, cMd_4, gDv_4, gMd_4, cDv_5, cMd_5, gDv_5, gMd_5, cDv_7, cMd_7, gDv_7, gMd_7, cDv_8, cMd_8, gDv_8, gMd_8, cDv_9, cMd_9, gDv_9, gMd_9, cDv_12, cMd_12, gDv_12, gMd_12, cDv_16, cMd_16, gDv_16, gMd_16, cDv_28, cMd_28, gDv_28, gMd_28, cDv_140, cMd_140, gDv_140, gMd_140, cDv_900, cMd_900, gDv_900, gMd_900, a1, q1, c1, q2]
    rw [rngD_succ, cast]
    simp only [loopF_cons, kF1_some, eVar_at, kVar_some, eC_at, eBin_at, k2_some, k3_some, eUn_at, k1_some, kVal_some, kBl_some, kEq_at, kBlN_some, kNe_at, kIn_at, kNotIn_at, kIx_at, ixO_tup, kLt_int, kLe_int, kGt_int, kGe_int, kLt_str, kLe_str, kGt_str, kGe_str, kIs_non, kIs_bl, kIs_int, kIs_str, kIs_tup, kIs_ref, kIsNot_non, kIsNot_bl, kIsNot_int, kIsNot_str, kIsNot_tup, kIsNot_ref, opAdd_int, opAdd_str, opSub_int, opMul_int, opDiv_int, opMod_int, opPow_int, opAnd_int, opOr_int, opNeg_int, eChain_at, kc1_some, kc2_some, kc3_true, kc3_false, kc4_some, tOf_at, kTru_some, kTru2_some, truD_non, truD_bl, truD_int, truD_tup, tAnd_at, kAnd_true, kAnd_false, tOr_at, kOr_true, kOr_false, tNot_at, kNot_some, tYes_at, eAnd_at, keAnd_some, keAnd2_true, keAnd2_false, eOr_at, keOr_some, keOr2_true, keOr2_false, eNot_at, keNot_some, keNot2_some, eIf_at, keIf_true, keIf_false, aNil_at, aCons_at, ka1_some, ka2_some, eTup_at, kTup_0, kTup_1, kTup_2, kTup_3, kTup_4, kTup_5, kTup_6, eLst_at, kLst_0, kLst_1, kLst_2, kLst_3, kLst_4, eDic0_at, eCall_at, kCall_some, o1_at, isiO_at, kIsi_some, tyD_non, tyD_bl, tyD_int, tyD_str, tyD_tup, eBM_at, kbm1_some, kbm2_some, eSl_at, ks2_some, ks3_some, ks4_some, oNone_at, oSome_at, kSome_int, slO_str, sSeq_at, kSeq_nx, kSeq_rt, kSeq_bk, kSeq_ct, sNext_at, sBreak_at, sCont_at, sRetN_at, sRet_at, kRet_some, sExpr_at, kExpr_some, sSet_at, kSet_some, sIf_at, kIf_true, kIf_false, sPar2_k, kPar2_some, sPar3_k, kPar3_some, sAsg_at, kAsg_some, kAsg2_some, mName_at, mTup_2, mTup_3, mCons_at, kmCons_some, mNil_at, sPut_at, kp1_some, kp2_some, kp3_some, kp4_some, kFn_rt, kFn_nx, mkFn_0, mkFn_1, mkFn_2, mkFn_3, mkFn_4, mkFn_5, sWhile_at, List.getElem?_cons_zero, List.getElem?_cons_succ, List.set_cons_zero, List.set_cons_succ, List.replicate_succ, List.replicate_zero, Nat.reduceSub, Bool.not_true, Bool.not_false, ite_true, ite_false, if_true, if_false, reduceCtorEq, fldM_at, sFldM_at, kSF1_some, kSF2_some, kSF3_some, sFldAddM_at, kSA1_some, kSA2_int, eMake_at, kMk1_some, kMk2_some, isCM_at, isCO_non, eGet1_at, kG12_some, kG13_some, eGet2_at, kG22_some, kG23_some, eCallD_at, kCallD_some, eKdx_at, kKdx_some, kIsB_at, atI0, atI1, eq_str, ixO_tup, lenO_tup, mTup_2, eqO_int, List.cons.injEq, Nat.reduceEqDiff, decide_false, decide_true, and_false, and_true, false_and, true_and, Bool.or_false, Bool.or_true, Bool.true_or, Bool.false_or, Bool.and_true, Bool.and_false, Bool.false_and, Bool.true_and, Int.reduceLE, Int.reduceLT, cDv_2, cMd_2, gDv_2, gMd_2, cDv_3, cMd_3, gDv_3, gMd_3, cDv_4, cMd_4, gDv_4, gMd_4, cDv_5, cMd_5, gDv_5, gMd_5, cDv_7, cMd_7, gDv_7, gMd_7, cDv_8, cMd_8, gDv_8, gMd_8, cDv_9, cMd_9, gDv_9, gMd_9, cDv_12, cMd_12, gDv_12, gMd_12, cDv_16, cMd_16, gDv_16, gMd_16, cDv_28, cMd_28, gDv_28, gMd_28, cDv_140, cMd_140, gDv_140, gMd_140, cDv_900, cMd_900, gDv_900, gMd_900, b1, kF2_nx, e1]
theorem far_is {ths : List Nat} {st : Sto} (w : Wd ths st) (hz : ths.length < 90000) (e : Nat) (he : e ≤ 10000) : ∃ st' ths', F_l_far_right [.ref 4, .int (e : Nat)] st = some (.bl true, st') ∧ Wd ths' st' ∧ Only [7] st st' ∧ ∃ more, ths' = ths ++ more := by
  obtain ⟨st1, c1, w1, h1, o1⟩ := count_is w (by omega) (e := (e : Nat)) (by omega)
  have hi : (ths ++ [st.length])[ths.length]? = some st.length := by simp
  have h41 : 41 ≤ st.length := by
    have := (List.getElem?_eq_some_iff.mp (w.f (40, given [115, 104, 117, 116]) (List.mem_of_getElem? (i := 21) (by rfl)))).1
    omega
  obtain ⟨st2, s2, y, l2, w2, h2, o2⟩ := far_loop e hi h41 e 0 st1 sNew none (by omega) w1 h1 (.inl rfl)
  have hlim : e ≤ LIM := by
    unfold LIM
    omega
  have fo : sFor (iR1 (aCons (eVar 1) aNil)) (mName 3) uF_l_far_right_1 [some (.ref 4), some (.int (e : Nat)), some (th (ths.length : Nat)), none] st1 = some (.nx, [some (.ref 4), some (.int (e : Nat)), some (th (ths.length : Nat)), y], st2) := by
    rw [sFor_run (st' := st1) (ds := rngD 0 e) (by simp only [iR1_at, eVar_at, kVar_some, eC_at, eBin_at, k2_some, k3_some, eUn_at, k1_some, kVal_some, kBl_some, kEq_at, kBlN_some, kNe_at, kIn_at, kNotIn_at, kIx_at, ixO_tup, kLt_int, kLe_int, kGt_int, kGe_int, kLt_str, kLe_str, kGt_str, kGe_str, kIs_non, kIs_bl, kIs_int, kIs_str, kIs_tup, kIs_ref, kIsNot_non, kIsNot_bl, kIsNot_int, kIsNot_str, kIsNot_tup, kIsNot_ref, opAdd_int, opAdd_str, opSub_int, opMul_int, opDiv_int, opMod_int, opPow_int, opAnd_int, opOr_int, opNeg_int, eChain_at, kc1_some, kc2_some, kc3_true, kc3_false, kc4_some, tOf_at, kTru_some, kTru2_some, truD_non, truD_bl, truD_int, truD_tup, tAnd_at, kAnd_true, kAnd_false, tOr_at, kOr_true, kOr_false, tNot_at, kNot_some, tYes_at, eAnd_at, keAnd_some, keAnd2_true, keAnd2_false, eOr_at, keOr_some, keOr2_true, keOr2_false, eNot_at, keNot_some, keNot2_some, eIf_at, keIf_true, keIf_false, aNil_at, aCons_at, ka1_some, ka2_some, eTup_at, kTup_0, kTup_1, kTup_2, kTup_3, kTup_4, kTup_5, kTup_6, eLst_at, kLst_0, kLst_1, kLst_2, kLst_3, kLst_4, eDic0_at, eCall_at, kCall_some, o1_at, isiO_at, kIsi_some, tyD_non, tyD_bl, tyD_int, tyD_str, tyD_tup, eBM_at, kbm1_some, kbm2_some, eSl_at, ks2_some, ks3_some, ks4_some, oNone_at, oSome_at, kSome_int, slO_str, sSeq_at, kSeq_nx, kSeq_rt, kSeq_bk, kSeq_ct, sNext_at, sBreak_at, sCont_at, sRetN_at, sRet_at, kRet_some, sExpr_at, kExpr_some, sSet_at, kSet_some, sIf_at, kIf_true, kIf_false, sPar2_k, kPar2_some, sPar3_k, kPar3_some, sAsg_at, kAsg_some, kAsg2_some, mName_at, mTup_2, mTup_3, mCons_at, kmCons_some, mNil_at, sPut_at, kp1_some, kp2_some, kp3_some, kp4_some, kFn_rt, kFn_nx, mkFn_0, mkFn_1, mkFn_2, mkFn_3, mkFn_4, mkFn_5, sWhile_at, List.getElem?_cons_zero, List.getElem?_cons_succ, List.set_cons_zero, List.set_cons_succ, List.replicate_succ, List.replicate_zero, Nat.reduceSub, Bool.not_true, Bool.not_false, ite_true, ite_false, if_true, if_false, reduceCtorEq, fldM_at, sFldM_at, kSF1_some, kSF2_some, kSF3_some, sFldAddM_at, kSA1_some, kSA2_int, eMake_at, kMk1_some, kMk2_some, isCM_at, isCO_non, eGet1_at, kG12_some, kG13_some, eGet2_at, kG22_some, kG23_some, eCallD_at, kCallD_some, eKdx_at, kKdx_some, kIsB_at, atI0, atI1, eq_str, ixO_tup, lenO_tup, mTup_2, eqO_int, List.cons.injEq, Nat.reduceEqDiff, decide_false, decide_true, and_false, and_true, false_and, true_and, Bool.or_false, Bool.or_true, Bool.true_or, Bool.false_or, Bool.and_true, Bool.and_false, Bool.false_and, Bool.true_and, Int.reduceLE, Int.reduceLT, cDv_2, cMd_2, gDv_2, gMd_2, cDv_3, cMd_3, gDv_3, gMd_3, cDv_4, cMd_4, gDv_4, gMd_4, cDv_5, cMd_5, gDv_5, gMd_5, cDv_7, cMd_7, gDv_7, gMd_7, cDv_8, cMd_8, gDv_8, gMd_8, cDv_9, cMd_9, gDv_9, gMd_9, cDv_12, cMd_12, gDv_12, gMd_12, cDv_16, cMd_16, gDv_16, gMd_16, cDv_28, cMd_28, gDv_28, gMd_28, cDv_140, cMd_140, gDv_140, gMd_140, cDv_900, cMd_900, gDv_900, gMd_900, kR1_some hlim])]
    exact l2
  have c3 := counted_over w2 hi h2 (Int.le_refl _)
  have lr := (List.getElem?_eq_some_iff.mp h2).1
  have h3 : (st2.set st.length (recG (.str [99, 111, 117, 110, 116]) .non (.int (e : Nat)) (.int (e : Nat)) (.str sOver)))[st.length]? = some (recG (.str [99, 111, 117, 110, 116]) .non (.int (e : Nat)) (.int (e : Nat)) (.str sOver)) := List.getElem?_set_self lr
  have w3 := w2.set (o := recG (.str [99, 111, 117, 110, 116]) .non (.int (e : Nat)) (.int (e : Nat)) (.str sOver)) h41
  have a3 := asked_is w3 hi h3 (.inr (.inr (.inr rfl)))
  have a3' : askA sOver (th (ths.length : Nat)) = .tup [.str [111, 118, 101, 114]] := rfl
  rw [a3'] at a3
  have s3 := state_is w3 hi h3
  have q : ∀ s : Sto, eqO s (.tup [.str [111, 118, 101, 114]]) (.tup [.str [111, 118, 101, 114]]) = some true := fun s => eqO_self pd_ove
  have q2 : ∀ s : Sto, eqO s (.str sOver) (.str sOver) = some true := fun s => eqO_self trivial
  refine ⟨_, _, ?_, w3, ?_, _, rfl⟩
  · simp only [F_l_far_right, b_l_far_right, eVar_at, kVar_some, eC_at, eBin_at, k2_some, k3_some, eUn_at, k1_some, kVal_some, kBl_some, kEq_at, kBlN_some, kNe_at, kIn_at, kNotIn_at, kIx_at, ixO_tup, kLt_int, kLe_int, kGt_int, kGe_int, kLt_str, kLe_str, kGt_str, kGe_str, kIs_non, kIs_bl, kIs_int, kIs_str, kIs_tup, kIs_ref, kIsNot_non, kIsNot_bl, kIsNot_int, kIsNot_str, kIsNot_tup, kIsNot_ref, opAdd_int, opAdd_str, opSub_int, opMul_int, opDiv_int, opMod_int, opPow_int, opAnd_int, opOr_int, opNeg_int, eChain_at, kc1_some, kc2_some, kc3_true, kc3_false, kc4_some, tOf_at, kTru_some, kTru2_some, truD_non, truD_bl, truD_int, truD_tup, tAnd_at, kAnd_true, kAnd_false, tOr_at, kOr_true, kOr_false, tNot_at, kNot_some, tYes_at, eAnd_at, keAnd_some, keAnd2_true, keAnd2_false, eOr_at, keOr_some, keOr2_true, keOr2_false, eNot_at, keNot_some, keNot2_some, eIf_at, keIf_true, keIf_false, aNil_at, aCons_at, ka1_some, ka2_some, eTup_at, kTup_0, kTup_1, kTup_2, kTup_3, kTup_4, kTup_5, kTup_6, eLst_at, kLst_0, kLst_1, kLst_2, kLst_3, kLst_4, eDic0_at, eCall_at, kCall_some, o1_at, isiO_at, kIsi_some, tyD_non, tyD_bl, tyD_int, tyD_str, tyD_tup, eBM_at, kbm1_some, kbm2_some, eSl_at, ks2_some, ks3_some, ks4_some, oNone_at, oSome_at, kSome_int, slO_str, sSeq_at, kSeq_nx, kSeq_rt, kSeq_bk, kSeq_ct, sNext_at, sBreak_at, sCont_at, sRetN_at, sRet_at, kRet_some, sExpr_at, kExpr_some, sSet_at, kSet_some, sIf_at, kIf_true, kIf_false, sPar2_k, kPar2_some, sPar3_k, kPar3_some, sAsg_at, kAsg_some, kAsg2_some, mName_at, mTup_2, mTup_3, mCons_at, kmCons_some, mNil_at, sPut_at, kp1_some, kp2_some, kp3_some, kp4_some, kFn_rt, kFn_nx, mkFn_0, mkFn_1, mkFn_2, mkFn_3, mkFn_4, mkFn_5, sWhile_at, List.getElem?_cons_zero, List.getElem?_cons_succ, List.set_cons_zero, List.set_cons_succ, List.replicate_succ, List.replicate_zero, Nat.reduceSub, Bool.not_true, Bool.not_false, ite_true, ite_false, if_true, if_false, reduceCtorEq, fldM_at, sFldM_at, kSF1_some, kSF2_some, kSF3_some, sFldAddM_at, kSA1_some, kSA2_int, eMake_at, kMk1_some, kMk2_some, isCM_at, isCO_non, eGet1_at, kG12_some, kG13_some, eGet2_at, kG22_some, kG23_some, eCallD_at, kCallD_some, eKdx_at, kKdx_some, kIsB_at, atI0, atI1, eq_str, ixO_tup, lenO_tup, mTup_2, eqO_int, List.cons.injEq, Nat.reduceEqDiff, decide_false, decide_true, and_false, and_true, false_and, true_and, Bool.or_false, Bool.or_true, Bool.true_or, Bool.false_or, Bool.and_true, Bool.and_false, Bool.false_and, Bool.true_and, Int.reduceLE, Int.reduceLT, cDv_2, cMd_2, gDv_2, gMd_2, cDv_3, cMd_3, gDv_3, gMd_3, cDv_4, cMd_4, gDv_4, gMd_4, cDv_5, cMd_5, gDv_5, gMd_5, cDv_7, cMd_7, gDv_7, gMd_7, cDv_8, cMd_8, gDv_8, gMd_8, cDv_9, cMd_9, gDv_9, gMd_9, cDv_12, cMd_12, gDv_12, gMd_12, cDv_16, cMd_16, gDv_16, gMd_16, cDv_28, cMd_28, gDv_28, gMd_28, cDv_140, cMd_140, gDv_140, gMd_140, cDv_900, cMd_900, gDv_900, gMd_900, kn_count w, call_count w, c1, fo, c3, a3, s3, q, q2]
  · intro n o hn h
    have hl := (List.getElem?_eq_some_iff.mp h).1
    have h5 := o2 n o (fun z => by have := List.mem_singleton.mp z; omega) (o1 n o hn h)
    rw [List.getElem?_set_ne (by omega)]
    exact h5
end Math

set_option maxRecDepth 100000
set_option maxHeartbeats 4000000
namespace Math
open MP Text PySem
section
variable {ns cs : List Int} {k : Nat} {gvs : List Gv} {ths : List Nat} {st : Sto}
theorem Iv.add (h : Iv ns cs k gvs ths st) {v : Gv} (hd : st[v.d]? = some (.dic [])) (hr : st[v.r]? = some v.rc) (hi : ths[v.i]? = some v.r) (ld : 41 < v.d) (lr : 41 < v.r) (hs : St4 v.s)
    (c1 : v.cnt = true → v.fr = .non ∧ ∃ a e : Int, v.at_ = .int a ∧ v.en = .int e) (c0 : v.cnt = false → isNon v.fr = false) (hf : FrOk st v.fr) (fresh : ∀ u ∈ gvs, u.d ≠ v.d ∧ u.r ≠ v.r) :
    Iv ns cs k (gvs ++ [v]) ths ((st.set v.d (.dic v.one)).set 41 (.lst ((gvs ++ [v]).map fun v => D.ref v.d))) := by
  have o : Only [v.d, 41] st ((st.set v.d (.dic v.one)).set 41 (.lst ((gvs ++ [v]).map fun v => D.ref v.d))) := (Only.set (.head _)).trans (Only.set (.tail _ (.head _)))
  have l41 := (List.getElem?_eq_some_iff.mp h.l).1
  have nj : ∀ n, n < 41 → n ∉ [v.d, 41] := fun n hn z => by
    rcases List.mem_cons.mp z with e | e
    · omega
    · have := List.mem_singleton.mp e
      omega
  have lst : ∀ n ds, st[n]? = some (.lst ds) → 41 < n → n ∉ [v.d, 41] := fun n ds hn hl z => by
    rcases List.mem_cons.mp z with e | e
    · rw [e, hd] at hn
      cases hn
    · have := List.mem_singleton.mp e
      omega
  have ne : v.r ≠ v.d := fun e => by
    rw [e, hd] at hr
    cases hr
  have ldl := (List.getElem?_eq_some_iff.mp hd).1
  refine ⟨o _ _ (nj _ (by decide)) h.a, o _ _ (nj _ (by decide)) h.b, o _ _ (nj _ (by decide)) h.c, (h.w.set (by omega)).set (Nat.le_refl _), List.getElem?_set_self (by rw [List.length_set]; exact l41), fun u hu => ?_, fun a b u u' ha hb hab => ?_⟩
  · rcases List.mem_append.mp hu with hu | hu
    · obtain ⟨u1, u2, u3, u4⟩ := h.g u hu
      obtain ⟨f1, f2⟩ := fresh u hu
      have := u1.grow (more := []) o (fun z => by
        rcases List.mem_cons.mp z with e | e
        · exact f1 e
        · have := List.mem_singleton.mp e
          omega) (fun z => by
        rcases List.mem_cons.mp z with e | e
        · have x := u1.r
          rw [e, hd] at x
          cases x
        · have := List.mem_singleton.mp e
          omega)
      rw [List.append_nil] at this
      exact ⟨this, u2.only o lst, u3, u4⟩
    · cases List.mem_singleton.mp hu
      refine ⟨⟨?_, ?_, hi, hs, c1, c0, by omega, by omega⟩, hf.only o lst, ld, lr⟩
      · rw [List.getElem?_set_ne (by omega), List.getElem?_set_self ldl]
      · rw [List.getElem?_set_ne (by omega), List.getElem?_set_ne (Ne.symm ne)]
        exact hr
  · have cs : ∀ (a : Nat) (u : Gv), (gvs ++ [v])[a]? = some u → (gvs[a]? = some u ∧ a < gvs.length) ∨ (u = v ∧ a = gvs.length) := fun a u ha => by
      by_cases hl : a < gvs.length
      · rw [List.getElem?_append_left hl] at ha
        exact .inl ⟨ha, hl⟩
      · rw [List.getElem?_append_right (by omega)] at ha
        have hz : a - gvs.length = 0 := by
          have := (List.getElem?_eq_some_iff.mp ha).1
          simp at this
          omega
        rw [hz] at ha
        simp at ha
        exact .inr ⟨ha.symm, by omega⟩
    rcases cs a u ha with ⟨a1, a2⟩ | ⟨rfl, a2⟩
    · rcases cs b u' hb with ⟨b1, b2⟩ | ⟨rfl, b2⟩
      · exact h.ne a b u u' a1 b1 hab
      · exact fresh u (List.mem_of_getElem? a1)
    · rcases cs b u' hb with ⟨b1, b2⟩ | ⟨rfl, b2⟩
      · obtain ⟨f1, f2⟩ := fresh u' (List.mem_of_getElem? b1)
        exact ⟨f1.symm, f2.symm⟩
      · omega
theorem Iv.lt (h : Iv ns cs k gvs ths st) : ∀ u ∈ gvs, u.d < st.length ∧ u.r < st.length := fun u hu => by
  obtain ⟨u1, _⟩ := h.g u hu
  exact ⟨(List.getElem?_eq_some_iff.mp u1.d).1, (List.getElem?_eq_some_iff.mp u1.r).1⟩
theorem Iv.len (h : Iv ns cs k gvs ths st) : 41 < st.length := (List.getElem?_eq_some_iff.mp h.l).1
theorem Iv.app (h : Iv ns cs k gvs ths st) (x : D) (hg : gvs.length ≤ 500) : appM (.ref 41) [x] st = some (.non, st.set 41 (.lst ((gvs.map fun v => D.ref v.d) ++ [x]))) := by
  have : myL st 41 = some (gvs.map fun v => D.ref v.d) := by
    unfold myL
    rw [h.l]
  exact app_is this (by rw [List.length_map]; omega)
theorem isl41 (h : st[41]? = some (.lst (gvs.map fun v => D.ref v.d))) : isL st (.ref 41) = true := isL_my (ds := gvs.map fun v => D.ref v.d) (by
  unfold myL
  rw [h])
end
end Math

set_option maxRecDepth 100000
set_option maxHeartbeats 4000000
namespace Math
open MP Text PySem
theorem str_is (k : Nat) (hk : k < 4) : ∃ sg : List Nat, sg.length ≤ 100 ∧ ∀ st, strO (.int (k : Nat)) st = some (.str sg) := by
  have h : k = 0 ∨ k = 1 ∨ k = 2 ∨ k = 3 := by omega
  refine ⟨sgnI (k : Nat), ?_, fun st => ?_⟩
  · rcases h with rfl | rfl | rfl | rfl <;> decide +kernel
  · have : ((k : Nat) : Int).natAbs.log2 < 1920 := by
      rcases h with rfl | rfl | rfl | rfl <;> decide
    simp only [strO, this, if_true]
section
variable {ns cs : List Int} {k : Nat} {gvs : List Gv} {ths : List Nat} {st : Sto}
theorem five_is (h : Iv ns cs k gvs ths st) (hg : gvs.length ≤ 100) (hz : ths.length < 50000) (j : Nat) (hj : j < 4) (x0 x6 x7 x8 x9 x10 x11 : Option D) :
    ∃ gvs' ths' st' y, uF_law_5 (rhoL x0 (some (.int (j : Nat))) x6 x7 x8 x9 x10 x11) st = some (.nx, rhoL x0 (some (.int (j : Nat))) y x7 x8 x9 x10 x11, st') ∧ Iv ns cs k gvs' ths' st' ∧ gvs'.length = gvs.length + 1 ∧ ths'.length = ths.length + 1 := by
  obtain ⟨sg, sl, hs⟩ := str_is j hj
  have hsl : ([102] : List Nat).length + sg.length ≤ LIM := by
    unfold LIM
    simp only [List.length_singleton]
    omega
  have hj4 : j < ([.ref (st ++ [Ob.lst [D.int 1]]).length, .tup [.str [98]], .int 5, .str [120]] : List D).length := by simpa using hj
  obtain ⟨fr, hfr⟩ : ∃ fr, ([.ref (st ++ [Ob.lst [D.int 1]]).length, .tup [.str [98]], .int 5, .str [120]] : List D)[j]? = some fr := ⟨_, List.getElem?_eq_getElem hj4⟩
  have e1 : ixO (.ref (st ++ [Ob.lst [D.int 1]] ++ [Ob.lst [D.str [97], .ref st.length]]).length) (.int (j : Nat)) (st ++ [Ob.lst [D.int 1]] ++ [Ob.lst [D.str [97], .ref st.length]] ++ [Ob.lst [D.ref (st ++ [Ob.lst [D.int 1]]).length, .tup [.str [98]], .int 5, .str [120]]]) = some fr := ixO_end.trans (L2.atI_nat hfr)
  have h3 : Iv ns cs k gvs ths (st ++ [Ob.lst [D.int 1]] ++ [Ob.lst [D.str [97], .ref st.length]] ++ [Ob.lst [D.ref (st ++ [Ob.lst [D.int 1]]).length, .tup [.str [98]], .int 5, .str [120]]]) := ((h.grow _).grow _).grow _
  have hlen : (st ++ [Ob.lst [D.int 1]] ++ [Ob.lst [D.str [97], .ref st.length]] ++ [Ob.lst [D.ref (st ++ [Ob.lst [D.int 1]]).length, .tup [.str [98]], .int 5, .str [120]]]).length = st.length + 3 := by simp
  have hfo : FrOk (st ++ [Ob.lst [D.int 1]] ++ [Ob.lst [D.str [97], .ref st.length]] ++ [Ob.lst [D.ref (st ++ [Ob.lst [D.int 1]]).length, .tup [.str [98]], .int 5, .str [120]]]) fr := by
    have hm := List.mem_of_getElem? hfr
    have := h.len
    simp only [List.mem_cons, List.not_mem_nil, or_false] at hm
    rcases hm with rfl | rfl | rfl | rfl
    · refine .inr ⟨_, st.length, [97], rfl, ?_, ?_, by simp; omega, by omega⟩
      · exact get_grow (at_end _ _ [])
      · exact get_grow (get_grow (at_end _ _ []))
    · exact .inl (PD_tup (by simp) (memC trivial memN))
    · exact .inl trivial
    · exact .inl trivial
  have hfn : isNon fr = false := by
    have hm := List.mem_of_getElem? hfr
    simp only [List.mem_cons, List.not_mem_nil, or_false] at hm
    rcases hm with rfl | rfl | rfl | rfl <;> rfl
  generalize hS : (st ++ [Ob.lst [D.int 1]] ++ [Ob.lst [D.str [97], .ref st.length]] ++ [Ob.lst [D.ref (st ++ [Ob.lst [D.int 1]]).length, .tup [.str [98]], .int 5, .str [120]]]) = s3 at e1 h3 hlen hfo
  have hsl1 : 1 + sg.length ≤ LIM := hsl
  have h4 := h3.grow [Ob.dic []]
  obtain ⟨st5, g1, w5, r5, o5⟩ := giver_make h4.w (by omega) (.str ([102] ++ sg)) fr
  have h5 := h4.low o5 w5
  have l3 := h3.len
  have hd5 : st5[s3.length]? = some (.dic []) := o5 _ _ (fun z => by have := List.mem_singleton.mp z; omega) (at_end _ _ [])
  have m1 : myD st5 s3.length = some [] := by
    unfold myD
    rw [hd5]
  have m2 : mergeD ([] : List (Sum Int Str × D)) [(.inr (mkS [103, 105, 118, 101, 114]), th (ths.length : Nat)), (.inr (mkS [102, 114, 97, 109, 101]), fr), (.inr (mkS [115, 116, 97, 116, 101]), .str sNew)] = oneL (th (ths.length : Nat)) fr (.str sNew) [] := by rfl
  have dp : (eDisp (psCons (eC (.str [103, 105, 118, 101, 114])) (eCall F_giver (aCons (eVar 3) (aCons (eBin opAdd (eC (.str [102])) (eCall (o1 strO) (aCons (eVar 5) aNil))) (aCons (eVar 6) aNil)))) (psCons (eC (.str [102, 114, 97, 109, 101])) (eVar 6) (psCons (eC (.str [115, 116, 97, 116, 101])) (eC (.str [110, 101, 119])) psNil)))) (rhoL x0 (some (.int (j : Nat))) (some fr) x7 x8 x9 x10 x11) s3 = some (.ref s3.length, st5.set s3.length (.dic (oneL (th (ths.length : Nat)) fr (.str sNew) []))) := by
    simp only [eDisp, psCons, psNil, eVar_at, kVar_some, eC_at, eBin_at, k2_some, k3_some, eUn_at, k1_some, kVal_some, kBl_some, kEq_at, kBlN_some, kNe_at, kIn_at, kNotIn_at, kIx_at, ixO_tup, kLt_int, kLe_int, kGt_int, kGe_int, kLt_str, kLe_str, kGt_str, kGe_str, kIs_non, kIs_bl, kIs_int, kIs_str, kIs_tup, kIs_ref, kIsNot_non, kIsNot_bl, kIsNot_int, kIsNot_str, kIsNot_tup, kIsNot_ref, opAdd_int, opAdd_str, opSub_int, opMul_int, opDiv_int, opMod_int, opPow_int, opAnd_int, opOr_int, opNeg_int, eChain_at, kc1_some, kc2_some, kc3_true, kc3_false, kc4_some, tOf_at, kTru_some, kTru2_some, truD_non, truD_bl, truD_int, truD_tup, tAnd_at, kAnd_true, kAnd_false, tOr_at, kOr_true, kOr_false, tNot_at, kNot_some, tYes_at, eAnd_at, keAnd_some, keAnd2_true, keAnd2_false, eOr_at, keOr_some, keOr2_true, keOr2_false, eNot_at, keNot_some, keNot2_some, eIf_at, keIf_true, keIf_false, aNil_at, aCons_at, ka1_some, ka2_some, eTup_at, kTup_0, kTup_1, kTup_2, kTup_3, kTup_4, kTup_5, kTup_6, eLst_at, kLst_0, kLst_1, kLst_2, kLst_3, kLst_4, eDic0_at, eCall_at, kCall_some, o1_at, isiO_at, kIsi_some, tyD_non, tyD_bl, tyD_int, tyD_str, tyD_tup, eBM_at, kbm1_some, kbm2_some, eSl_at, ks2_some, ks3_some, ks4_some, oNone_at, oSome_at, kSome_int, slO_str, sSeq_at, kSeq_nx, kSeq_rt, kSeq_bk, kSeq_ct, sNext_at, sBreak_at, sCont_at, sRetN_at, sRet_at, kRet_some, sExpr_at, kExpr_some, sSet_at, kSet_some, sIf_at, kIf_true, kIf_false, sPar2_k, kPar2_some, sPar3_k, kPar3_some, sAsg_at, kAsg_some, kAsg2_some, mName_at, mTup_2, mTup_3, mCons_at, kmCons_some, mNil_at, sPut_at, kp1_some, kp2_some, kp3_some, kp4_some, kFn_rt, kFn_nx, mkFn_0, mkFn_1, mkFn_2, mkFn_3, mkFn_4, mkFn_5, sWhile_at, List.getElem?_cons_zero, List.getElem?_cons_succ, List.set_cons_zero, List.set_cons_succ, List.replicate_succ, List.replicate_zero, Nat.reduceSub, Bool.not_true, Bool.not_false, ite_true, ite_false, if_true, if_false, reduceCtorEq, fldM_at, sFldM_at, kSF1_some, kSF2_some, kSF3_some, sFldAddM_at, kSA1_some, kSA2_int, eMake_at, kMk1_some, kMk2_some, isCM_at, isCO_non, eGet1_at, kG12_some, kG13_some, eGet2_at, kG22_some, kG23_some, eCallD_at, kCallD_some, eKdx_at, kKdx_some, kIsB_at, atI0, atI1, eq_str, ixO_tup, lenO_tup, mTup_2, eqO_int, List.cons.injEq, Nat.reduceEqDiff, decide_false, decide_true, and_false, and_true, false_and, true_and, Bool.or_false, Bool.or_true, Bool.true_or, Bool.false_or, Bool.and_true, Bool.and_false, Bool.false_and, Bool.true_and, Int.reduceLE, Int.reduceLT, cDv_2, cMd_2, gDv_2, gMd_2, cDv_3, cMd_3, gDv_3, gMd_3, cDv_4, cMd_4, gDv_4, gMd_4, cDv_5, cMd_5, gDv_5, gMd_5, cDv_7, cMd_7, gDv_7, gMd_7, cDv_8, cMd_8, gDv_8, gMd_8, cDv_9, cMd_9, gDv_9, gMd_9, cDv_12, cMd_12, gDv_12, gMd_12, cDv_16, cMd_16, gDv_16, gMd_16, cDv_28, cMd_28, gDv_28, gMd_28, cDv_140, cMd_140, gDv_140, gMd_140, cDv_900, cMd_900, gDv_900, gMd_900, Option.bind_some, Option.map_some, keysO, keyOf, List.length_cons, List.length_nil, Nat.reduceAdd, Nat.reduceLeDiff, hs, hsl, hsl1, g1, m1, m2]
  have hlr : (s3 ++ [Ob.dic []]).length = s3.length + 1 := by simp
  have R := h5.add (v := ⟨s3.length, (s3 ++ [Ob.dic []]).length, ths.length, .str ([102] ++ sg), fr, .int 0, .int 0, sNew, false⟩) hd5 r5 (by simp) l3 (by show 41 < (s3 ++ [Ob.dic []]).length; omega) (.inl rfl) (fun z => by cases z) (fun _ => hfn)
    ((hfo.only (Only.grow (J := [7]) (g := [Ob.dic []])) (fun n ds _ hn z => by have := List.mem_singleton.mp z; omega)).only o5 (fun n ds _ hn z => by have := List.mem_singleton.mp z; omega))
    (fun u hu => by
      obtain ⟨a1, a2⟩ := h3.lt u hu
      exact ⟨by show u.d ≠ s3.length; omega, by show u.r ≠ (s3 ++ [Ob.dic []]).length; omega⟩)
  have l6 : (st5.set s3.length (.dic (oneL (th (ths.length : Nat)) fr (.str sNew) [])))[41]? = some (.lst (gvs.map fun v => D.ref v.d)) := by
    rw [List.getElem?_set_ne (by omega)]
    exact h5.l
  have ap : appM (.ref 41) [.ref s3.length] (st5.set s3.length (.dic (oneL (th (ths.length : Nat)) fr (.str sNew) []))) = some (.non, (st5.set s3.length (.dic (oneL (th (ths.length : Nat)) fr (.str sNew) []))).set 41 (.lst ((gvs.map fun v => D.ref v.d) ++ [.ref s3.length]))) := app_is (by
    unfold myL
    rw [l6]) (by rw [List.length_map]; omega)
  have il : isL s3 (.ref 41) = true := isl41 h3.l
  refine ⟨_, _, _, some fr, ?_, R, by simp, by simp⟩
  simp only [uF_law_5, eVar_at, kVar_some, eC_at, eBin_at, k2_some, k3_some, eUn_at, k1_some, kVal_some, kBl_some, kEq_at, kBlN_some, kNe_at, kIn_at, kNotIn_at, kIx_at, ixO_tup, kLt_int, kLe_int, kGt_int, kGe_int, kLt_str, kLe_str, kGt_str, kGe_str, kIs_non, kIs_bl, kIs_int, kIs_str, kIs_tup, kIs_ref, kIsNot_non, kIsNot_bl, kIsNot_int, kIsNot_str, kIsNot_tup, kIsNot_ref, opAdd_int, opAdd_str, opSub_int, opMul_int, opDiv_int, opMod_int, opPow_int, opAnd_int, opOr_int, opNeg_int, eChain_at, kc1_some, kc2_some, kc3_true, kc3_false, kc4_some, tOf_at, kTru_some, kTru2_some, truD_non, truD_bl, truD_int, truD_tup, tAnd_at, kAnd_true, kAnd_false, tOr_at, kOr_true, kOr_false, tNot_at, kNot_some, tYes_at, eAnd_at, keAnd_some, keAnd2_true, keAnd2_false, eOr_at, keOr_some, keOr2_true, keOr2_false, eNot_at, keNot_some, keNot2_some, eIf_at, keIf_true, keIf_false, aNil_at, aCons_at, ka1_some, ka2_some, eTup_at, kTup_0, kTup_1, kTup_2, kTup_3, kTup_4, kTup_5, kTup_6, eLst_at, kLst_0, kLst_1, kLst_2, kLst_3, kLst_4, eDic0_at, eCall_at, kCall_some, o1_at, isiO_at, kIsi_some, tyD_non, tyD_bl, tyD_int, tyD_str, tyD_tup, eBM_at, kbm1_some, kbm2_some, eSl_at, ks2_some, ks3_some, ks4_some, oNone_at, oSome_at, kSome_int, slO_str, sSeq_at, kSeq_nx, kSeq_rt, kSeq_bk, kSeq_ct, sNext_at, sBreak_at, sCont_at, sRetN_at, sRet_at, kRet_some, sExpr_at, kExpr_some, sSet_at, kSet_some, sIf_at, kIf_true, kIf_false, sPar2_k, kPar2_some, sPar3_k, kPar3_some, sAsg_at, kAsg_some, kAsg2_some, mName_at, mTup_2, mTup_3, mCons_at, kmCons_some, mNil_at, sPut_at, kp1_some, kp2_some, kp3_some, kp4_some, kFn_rt, kFn_nx, mkFn_0, mkFn_1, mkFn_2, mkFn_3, mkFn_4, mkFn_5, sWhile_at, List.getElem?_cons_zero, List.getElem?_cons_succ, List.set_cons_zero, List.set_cons_succ, List.replicate_succ, List.replicate_zero, Nat.reduceSub, Bool.not_true, Bool.not_false, ite_true, ite_false, if_true, if_false, reduceCtorEq, fldM_at, sFldM_at, kSF1_some, kSF2_some, kSF3_some, sFldAddM_at, kSA1_some, kSA2_int, eMake_at, kMk1_some, kMk2_some, isCM_at, isCO_non, eGet1_at, kG12_some, kG13_some, eGet2_at, kG22_some, kG23_some, eCallD_at, kCallD_some, eKdx_at, kKdx_some, kIsB_at, atI0, atI1, eq_str, ixO_tup, lenO_tup, mTup_2, eqO_int, List.cons.injEq, Nat.reduceEqDiff, decide_false, decide_true, and_false, and_true, false_and, true_and, Bool.or_false, Bool.or_true, Bool.true_or, Bool.false_or, Bool.and_true, Bool.and_false, Bool.false_and, Bool.true_and, Int.reduceLE, Int.reduceLT, cDv_2, cMd_2, gDv_2, gMd_2, cDv_3, cMd_3, gDv_3, gMd_3, cDv_4, cMd_4, gDv_4, gMd_4, cDv_5, cMd_5, gDv_5, gMd_5, cDv_7, cMd_7, gDv_7, gMd_7, cDv_8, cMd_8, gDv_8, gMd_8, cDv_9, cMd_9, gDv_9, gMd_9, cDv_12, cMd_12, gDv_12, gMd_12, cDv_16, cMd_16, gDv_16, gMd_16, cDv_28, cMd_28, gDv_28, gMd_28, cDv_140, cMd_140, gDv_140, gMd_140, cDv_900, cMd_900, gDv_900, gMd_900, hS, e1, il, dp, ap]
  rw [List.map_append]
  rfl
theorem four_is (h : Iv ns cs k gvs ths st) (hk : k < 1000) (hcl : (cs.length : Int).natAbs.log2 < 9000) (hg : gvs.length ≤ 100) (hz : ths.length < 50000) (x0 x5 x6 x7 x8 x9 x10 x11 : Option D) :
    ∃ gvs' ths' st' y7 y8, uF_law_4 (rhoL x0 x5 x6 x7 x8 x9 x10 x11) st = some (.nx, rhoL x0 x5 x6 y7 y8 x9 x10 x11, st') ∧ Iv ns cs (k + 1) gvs' ths' st' ∧ gvs'.length = gvs.length + 1 ∧ ths'.length = ths.length + 1 := by
  have hb : rdL st 1 = some (cs.map D.int) := by
    unfold rdL
    rw [h.b]
  have hc : myL st 2 = some [.int (k : Nat)] := by
    unfold myL
    rw [h.c]
  obtain ⟨n, n0, n1, e1⟩ := cell hb hc (by decide) hk hcl
  have h1 := h.draw
  generalize st.set 2 (.lst [.int ((k + 1 : Nat) : Int)]) = st1 at e1 h1
  obtain ⟨st2, c1, w2, r2, o2⟩ := count_is h1.w (by omega) (e := n % 8 - 2) (by omega)
  have h2 := h1.low o2 w2
  have h3 := h2.grow [Ob.dic []]
  have l2 := h2.len
  have l1 := h1.len
  have l12 : st1.length < st2.length := (List.getElem?_eq_some_iff.mp r2).1
  have m1 : myD (st2 ++ [Ob.dic []]) st2.length = some [] := by
    unfold myD
    rw [at_end]
  have m2 : mergeD ([] : List (Sum Int Str × D)) [(.inr (mkS [103, 105, 118, 101, 114]), th (ths.length : Nat)), (.inr (mkS [102, 114, 97, 109, 101]), .non), (.inr (mkS [115, 116, 97, 116, 101]), .str sNew), (.inr (mkS [97, 116]), .int 0), (.inr (mkS [101, 110, 100]), .int (n % 8 - 2))] = oneL (th (ths.length : Nat)) .non (.str sNew) (moreC (.int 0) (.int (n % 8 - 2))) := by rfl
  have dp : (eDisp (psCons (eC (.str [103, 105, 118, 101, 114])) (eBin kIx (eVar 8) (eC (.int 1))) (psCons (eC (.str [102, 114, 97, 109, 101])) (eC .non) (psCons (eC (.str [115, 116, 97, 116, 101])) (eC (.str [110, 101, 119])) (psCons (eC (.str [97, 116])) (eC (.int 0)) (psCons (eC (.str [101, 110, 100])) (eVar 7) psNil)))))) (rhoL x0 x5 x6 (some (.int (n % 8 - 2))) (some (.tup [.str [118, 97, 108, 117, 101], th (ths.length : Nat)])) x9 x10 x11) st2 = some (.ref st2.length, (st2 ++ [Ob.dic []]).set st2.length (.dic (oneL (th (ths.length : Nat)) .non (.str sNew) (moreC (.int 0) (.int (n % 8 - 2)))))) := by
    simp only [eDisp, psCons, psNil, eVar_at, kVar_some, eC_at, eBin_at, k2_some, k3_some, eUn_at, k1_some, kVal_some, kBl_some, kEq_at, kBlN_some, kNe_at, kIn_at, kNotIn_at, kIx_at, ixO_tup, kLt_int, kLe_int, kGt_int, kGe_int, kLt_str, kLe_str, kGt_str, kGe_str, kIs_non, kIs_bl, kIs_int, kIs_str, kIs_tup, kIs_ref, kIsNot_non, kIsNot_bl, kIsNot_int, kIsNot_str, kIsNot_tup, kIsNot_ref, opAdd_int, opAdd_str, opSub_int, opMul_int, opDiv_int, opMod_int, opPow_int, opAnd_int, opOr_int, opNeg_int, eChain_at, kc1_some, kc2_some, kc3_true, kc3_false, kc4_some, tOf_at, kTru_some, kTru2_some, truD_non, truD_bl, truD_int, truD_tup, tAnd_at, kAnd_true, kAnd_false, tOr_at, kOr_true, kOr_false, tNot_at, kNot_some, tYes_at, eAnd_at, keAnd_some, keAnd2_true, keAnd2_false, eOr_at, keOr_some, keOr2_true, keOr2_false, eNot_at, keNot_some, keNot2_some, eIf_at, keIf_true, keIf_false, aNil_at, aCons_at, ka1_some, ka2_some, eTup_at, kTup_0, kTup_1, kTup_2, kTup_3, kTup_4, kTup_5, kTup_6, eLst_at, kLst_0, kLst_1, kLst_2, kLst_3, kLst_4, eDic0_at, eCall_at, kCall_some, o1_at, isiO_at, kIsi_some, tyD_non, tyD_bl, tyD_int, tyD_str, tyD_tup, eBM_at, kbm1_some, kbm2_some, eSl_at, ks2_some, ks3_some, ks4_some, oNone_at, oSome_at, kSome_int, slO_str, sSeq_at, kSeq_nx, kSeq_rt, kSeq_bk, kSeq_ct, sNext_at, sBreak_at, sCont_at, sRetN_at, sRet_at, kRet_some, sExpr_at, kExpr_some, sSet_at, kSet_some, sIf_at, kIf_true, kIf_false, sPar2_k, kPar2_some, sPar3_k, kPar3_some, sAsg_at, kAsg_some, kAsg2_some, mName_at, mTup_2, mTup_3, mCons_at, kmCons_some, mNil_at, sPut_at, kp1_some, kp2_some, kp3_some, kp4_some, kFn_rt, kFn_nx, mkFn_0, mkFn_1, mkFn_2, mkFn_3, mkFn_4, mkFn_5, sWhile_at, List.getElem?_cons_zero, List.getElem?_cons_succ, List.set_cons_zero, List.set_cons_succ, List.replicate_succ, List.replicate_zero, Nat.reduceSub, Bool.not_true, Bool.not_false, ite_true, ite_false, if_true, if_false, reduceCtorEq, fldM_at, sFldM_at, kSF1_some, kSF2_some, kSF3_some, sFldAddM_at, kSA1_some, kSA2_int, eMake_at, kMk1_some, kMk2_some, isCM_at, isCO_non, eGet1_at, kG12_some, kG13_some, eGet2_at, kG22_some, kG23_some, eCallD_at, kCallD_some, eKdx_at, kKdx_some, kIsB_at, atI0, atI1, eq_str, ixO_tup, lenO_tup, mTup_2, eqO_int, List.cons.injEq, Nat.reduceEqDiff, decide_false, decide_true, and_false, and_true, false_and, true_and, Bool.or_false, Bool.or_true, Bool.true_or, Bool.false_or, Bool.and_true, Bool.and_false, Bool.false_and, Bool.true_and, Int.reduceLE, Int.reduceLT, cDv_2, cMd_2, gDv_2, gMd_2, cDv_3, cMd_3, gDv_3, gMd_3, cDv_4, cMd_4, gDv_4, gMd_4, cDv_5, cMd_5, gDv_5, gMd_5, cDv_7, cMd_7, gDv_7, gMd_7, cDv_8, cMd_8, gDv_8, gMd_8, cDv_9, cMd_9, gDv_9, gMd_9, cDv_12, cMd_12, gDv_12, gMd_12, cDv_16, cMd_16, gDv_16, gMd_16, cDv_28, cMd_28, gDv_28, gMd_28, cDv_140, cMd_140, gDv_140, gMd_140, cDv_900, cMd_900, gDv_900, gMd_900, Option.bind_some, Option.map_some, keysO, keyOf, List.length_cons, List.length_nil, Nat.reduceAdd, Nat.reduceLeDiff, m1, m2]
  have R := h3.add (v := ⟨st2.length, st1.length, ths.length, .str [99, 111, 117, 110, 116], .non, .int (n % 8 - 2), .int 0, sNew, true⟩) (at_end _ _ []) (get_grow r2) (by simp) l2 l1 (.inl rfl) (fun _ => ⟨rfl, 0, n % 8 - 2, rfl, rfl⟩) (fun z => by cases z) (.inl trivial)
    (fun u hu => by
      obtain ⟨a1, a2⟩ := h1.lt u hu
      obtain ⟨b1, b2⟩ := h2.lt u hu
      exact ⟨by show u.d ≠ st2.length; omega, by show u.r ≠ st1.length; omega⟩)
  have l6 : ((st2 ++ [Ob.dic []]).set st2.length (.dic (oneL (th (ths.length : Nat)) .non (.str sNew) (moreC (.int 0) (.int (n % 8 - 2))))))[41]? = some (.lst (gvs.map fun v => D.ref v.d)) := by
    rw [List.getElem?_set_ne (by omega)]
    exact h3.l
  have ap : appM (.ref 41) [.ref st2.length] ((st2 ++ [Ob.dic []]).set st2.length (.dic (oneL (th (ths.length : Nat)) .non (.str sNew) (moreC (.int 0) (.int (n % 8 - 2)))))) = some (.non, ((st2 ++ [Ob.dic []]).set st2.length (.dic (oneL (th (ths.length : Nat)) .non (.str sNew) (moreC (.int 0) (.int (n % 8 - 2)))))).set 41 (.lst ((gvs.map fun v => D.ref v.d) ++ [.ref st2.length]))) := app_is (by
    unfold myL
    rw [l6]) (by rw [List.length_map]; omega)
  have il : isL st2 (.ref 41) = true := isl41 h2.l
  refine ⟨_, _, _, some (.int (n % 8 - 2)), some (.tup [.str [118, 97, 108, 117, 101], th (ths.length : Nat)]), ?_, R, by simp, by simp⟩
  simp only [uF_law_4, eVar_at, kVar_some, eC_at, eBin_at, k2_some, k3_some, eUn_at, k1_some, kVal_some, kBl_some, kEq_at, kBlN_some, kNe_at, kIn_at, kNotIn_at, kIx_at, ixO_tup, kLt_int, kLe_int, kGt_int, kGe_int, kLt_str, kLe_str, kGt_str, kGe_str, kIs_non, kIs_bl, kIs_int, kIs_str, kIs_tup, kIs_ref, kIsNot_non, kIsNot_bl, kIsNot_int, kIsNot_str, kIsNot_tup, kIsNot_ref, opAdd_int, opAdd_str, opSub_int, opMul_int, opDiv_int, opMod_int, opPow_int, opAnd_int, opOr_int, opNeg_int, eChain_at, kc1_some, kc2_some, kc3_true, kc3_false, kc4_some, tOf_at, kTru_some, kTru2_some, truD_non, truD_bl, truD_int, truD_tup, tAnd_at, kAnd_true, kAnd_false, tOr_at, kOr_true, kOr_false, tNot_at, kNot_some, tYes_at, eAnd_at, keAnd_some, keAnd2_true, keAnd2_false, eOr_at, keOr_some, keOr2_true, keOr2_false, eNot_at, keNot_some, keNot2_some, eIf_at, keIf_true, keIf_false, aNil_at, aCons_at, ka1_some, ka2_some, eTup_at, kTup_0, kTup_1, kTup_2, kTup_3, kTup_4, kTup_5, kTup_6, eLst_at, kLst_0, kLst_1, kLst_2, kLst_3, kLst_4, eDic0_at, eCall_at, kCall_some, o1_at, isiO_at, kIsi_some, tyD_non, tyD_bl, tyD_int, tyD_str, tyD_tup, eBM_at, kbm1_some, kbm2_some, eSl_at, ks2_some, ks3_some, ks4_some, oNone_at, oSome_at, kSome_int, slO_str, sSeq_at, kSeq_nx, kSeq_rt, kSeq_bk, kSeq_ct, sNext_at, sBreak_at, sCont_at, sRetN_at, sRet_at, kRet_some, sExpr_at, kExpr_some, sSet_at, kSet_some, sIf_at, kIf_true, kIf_false, sPar2_k, kPar2_some, sPar3_k, kPar3_some, sAsg_at, kAsg_some, kAsg2_some, mName_at, mTup_2, mTup_3, mCons_at, kmCons_some, mNil_at, sPut_at, kp1_some, kp2_some, kp3_some, kp4_some, kFn_rt, kFn_nx, mkFn_0, mkFn_1, mkFn_2, mkFn_3, mkFn_4, mkFn_5, sWhile_at, List.getElem?_cons_zero, List.getElem?_cons_succ, List.set_cons_zero, List.set_cons_succ, List.replicate_succ, List.replicate_zero, Nat.reduceSub, Bool.not_true, Bool.not_false, ite_true, ite_false, if_true, if_false, reduceCtorEq, fldM_at, sFldM_at, kSF1_some, kSF2_some, kSF3_some, sFldAddM_at, kSA1_some, kSA2_int, eMake_at, kMk1_some, kMk2_some, isCM_at, isCO_non, eGet1_at, kG12_some, kG13_some, eGet2_at, kG22_some, kG23_some, eCallD_at, kCallD_some, eKdx_at, kKdx_some, kIsB_at, atI0, atI1, eq_str, ixO_tup, lenO_tup, mTup_2, eqO_int, List.cons.injEq, Nat.reduceEqDiff, decide_false, decide_true, and_false, and_true, false_and, true_and, Bool.or_false, Bool.or_true, Bool.true_or, Bool.false_or, Bool.and_true, Bool.and_false, Bool.false_and, Bool.true_and, Int.reduceLE, Int.reduceLT, cDv_2, cMd_2, gDv_2, gMd_2, cDv_3, cMd_3, gDv_3, gMd_3, cDv_4, cMd_4, gDv_4, gMd_4, cDv_5, cMd_5, gDv_5, gMd_5, cDv_7, cMd_7, gDv_7, gMd_7, cDv_8, cMd_8, gDv_8, gMd_8, cDv_9, cMd_9, gDv_9, gMd_9, cDv_12, cMd_12, gDv_12, gMd_12, cDv_16, cMd_16, gDv_16, gMd_16, cDv_28, cMd_28, gDv_28, gMd_28, cDv_140, cMd_140, gDv_140, gMd_140, cDv_900, cMd_900, gDv_900, gMd_900, e1, kn_count h1.w, call_count h1.w, c1, il, dp, ap]
  rw [List.map_append]
  rfl
end
end Math

set_option maxRecDepth 100000
set_option maxHeartbeats 4000000
namespace Math
open MP Text PySem
theorem fives {ns cs : List Int} {k : Nat} (x0 x7 x8 x9 x10 x11 : Option D) : ∀ (m j : Nat) (gvs : List Gv) (ths : List Nat) (st : Sto), Iv ns cs k gvs ths st → j + m ≤ 4 → gvs.length + m ≤ 90 → ths.length + m < 1000 → ∀ x5 x6 : Option D,
    ∃ gvs' ths' st' y5 y6, loopF (fun _ => True) (mName 5) uF_law_5 (rngD (j : Nat) m) (rhoL x0 x5 x6 x7 x8 x9 x10 x11) st = some (.nx, rhoL x0 y5 y6 x7 x8 x9 x10 x11, st') ∧ Iv ns cs k gvs' ths' st' ∧ gvs'.length = gvs.length + m ∧ ths'.length = ths.length + m
  | 0, j, gvs, ths, st, h, _, _, _, x5, x6 => ⟨gvs, ths, st, x5, x6, loopF_nil, h, rfl, rfl⟩
  | m + 1, j, gvs, ths, st, h, hj, hg, hz, x5, x6 => by
    obtain ⟨g1, t1, s1, y, e1, h1, l1, l2⟩ := five_is h (by omega) (by omega) j (by omega) x0 x6 x7 x8 x9 x10 x11
    obtain ⟨g2, t2, s2, y5, y6, e2, h2, l3, l4⟩ := fives x0 x7 x8 x9 x10 x11 m (j + 1) g1 t1 s1 h1 (by omega) (by omega) (by omega) (some (.int (j : Nat))) y
    refine ⟨g2, t2, s2, y5, y6, ?_, h2, by omega, by omega⟩
    have cast : ((j : Nat) : Int) + 1 = ((j + 1 : Nat) : Int) := rfl
    rw [rngD_succ, cast]
    simp only [loopF_cons, kF1_some, eVar_at, kVar_some, eC_at, eBin_at, k2_some, k3_some, eUn_at, k1_some, kVal_some, kBl_some, kEq_at, kBlN_some, kNe_at, kIn_at, kNotIn_at, kIx_at, ixO_tup, kLt_int, kLe_int, kGt_int, kGe_int, kLt_str, kLe_str, kGt_str, kGe_str, kIs_non, kIs_bl, kIs_int, kIs_str, kIs_tup, kIs_ref, kIsNot_non, kIsNot_bl, kIsNot_int, kIsNot_str, kIsNot_tup, kIsNot_ref, opAdd_int, opAdd_str, opSub_int, opMul_int, opDiv_int, opMod_int, opPow_int, opAnd_int, opOr_int, opNeg_int, eChain_at, kc1_some, kc2_some, kc3_true, kc3_false, kc4_some, tOf_at, kTru_some, kTru2_some, truD_non, truD_bl, truD_int, truD_tup, tAnd_at, kAnd_true, kAnd_false, tOr_at, kOr_true, kOr_false, tNot_at, kNot_some, tYes_at, eAnd_at, keAnd_some, keAnd2_true, keAnd2_false, eOr_at, keOr_some, keOr2_true, keOr2_false, eNot_at, keNot_some, keNot2_some, eIf_at, keIf_true, keIf_false, aNil_at, aCons_at, ka1_some, ka2_some, eTup_at, kTup_0, kTup_1, kTup_2, kTup_3, kTup_4, kTup_5, kTup_6, eLst_at, kLst_0, kLst_1, kLst_2, kLst_3, kLst_4, eDic0_at, eCall_at, kCall_some, o1_at, isiO_at, kIsi_some, tyD_non, tyD_bl, tyD_int, tyD_str, tyD_tup, eBM_at, kbm1_some, kbm2_some, eSl_at, ks2_some, ks3_some, ks4_some, oNone_at, oSome_at, kSome_int, slO_str, sSeq_at, kSeq_nx, kSeq_rt, kSeq_bk, kSeq_ct, sNext_at, sBreak_at, sCont_at, sRetN_at, sRet_at, kRet_some, sExpr_at, kExpr_some, sSet_at, kSet_some, sIf_at, kIf_true, kIf_false, sPar2_k, kPar2_some, sPar3_k, kPar3_some, sAsg_at, kAsg_some, kAsg2_some, mName_at, mTup_2, mTup_3, mCons_at, kmCons_some, mNil_at, sPut_at, kp1_some, kp2_some, kp3_some, kp4_some, kFn_rt, kFn_nx, mkFn_0, mkFn_1, mkFn_2, mkFn_3, mkFn_4, mkFn_5, sWhile_at, List.getElem?_cons_zero, List.getElem?_cons_succ, List.set_cons_zero, List.set_cons_succ, List.replicate_succ, List.replicate_zero, Nat.reduceSub, Bool.not_true, Bool.not_false, ite_true, ite_false, if_true, if_false, reduceCtorEq, fldM_at, sFldM_at, kSF1_some, kSF2_some, kSF3_some, sFldAddM_at, kSA1_some, kSA2_int, eMake_at, kMk1_some, kMk2_some, isCM_at, isCO_non, eGet1_at, kG12_some, kG13_some, eGet2_at, kG22_some, kG23_some, eCallD_at, kCallD_some, eKdx_at, kKdx_some, kIsB_at, atI0, atI1, eq_str, ixO_tup, lenO_tup, mTup_2, eqO_int, List.cons.injEq, Nat.reduceEqDiff, decide_false, decide_true, and_false, and_true, false_and, true_and, Bool.or_false, Bool.or_true, Bool.true_or, Bool.false_or, Bool.and_true, Bool.and_false, Bool.false_and, Bool.true_and, Int.reduceLE, Int.reduceLT, cDv_2, cMd_2, gDv_2, gMd_2, cDv_3, cMd_3, gDv_3, gMd_3, cDv_4, cMd_4, gDv_4, gMd_4, cDv_5, cMd_5, gDv_5, gMd_5, cDv_7, cMd_7, gDv_7, gMd_7, cDv_8, cMd_8, gDv_8, gMd_8, cDv_9, cMd_9, gDv_9, gMd_9, cDv_12, cMd_12, gDv_12, gMd_12, cDv_16, cMd_16, gDv_16, gMd_16, cDv_28, cMd_28, gDv_28, gMd_28, cDv_140, cMd_140, gDv_140, gMd_140, cDv_900, cMd_900, gDv_900, gMd_900, e1, kF2_nx, e2]
theorem fours {ns cs : List Int} (hcl : (cs.length : Int).natAbs.log2 < 9000) (x0 x6 x9 x10 x11 : Option D) : ∀ (ds : List D) (k : Nat) (gvs : List Gv) (ths : List Nat) (st : Sto), Iv ns cs k gvs ths st → k + ds.length < 900 → gvs.length + ds.length ≤ 90 → ths.length + ds.length < 1000 → ∀ x5 x7 x8 : Option D,
    ∃ gvs' ths' st' y5 y7 y8, loopF (fun _ => True) (mName 5) uF_law_4 ds (rhoL x0 x5 x6 x7 x8 x9 x10 x11) st = some (.nx, rhoL x0 y5 x6 y7 y8 x9 x10 x11, st') ∧ Iv ns cs (k + ds.length) gvs' ths' st' ∧ gvs'.length = gvs.length + ds.length ∧ ths'.length = ths.length + ds.length
  | [], k, gvs, ths, st, h, _, _, _, x5, x7, x8 => ⟨gvs, ths, st, x5, x7, x8, loopF_nil, h, rfl, rfl⟩
  | d :: r, k, gvs, ths, st, h, hk, hg, hz, x5, x7, x8 => by
    rw [List.length_cons] at hk hg hz
    obtain ⟨g1, t1, s1, y7, y8, e1, h1, l1, l2⟩ := four_is h (by omega) hcl (by omega) (by omega) x0 (some d) x6 x7 x8 x9 x10 x11
    obtain ⟨g2, t2, s2, z5, z7, z8, e2, h2, l3, l4⟩ := fours hcl x0 x6 x9 x10 x11 r (k + 1) g1 t1 s1 h1 (by omega) (by omega) (by omega) (some d) y7 y8
    refine ⟨g2, t2, s2, z5, z7, z8, ?_, ?_, by rw [List.length_cons]; omega, by rw [List.length_cons]; omega⟩
    · simp only [loopF_cons, kF1_some, eVar_at, kVar_some, eC_at, eBin_at, k2_some, k3_some, eUn_at, k1_some, kVal_some, kBl_some, kEq_at, kBlN_some, kNe_at, kIn_at, kNotIn_at, kIx_at, ixO_tup, kLt_int, kLe_int, kGt_int, kGe_int, kLt_str, kLe_str, kGt_str, kGe_str, kIs_non, kIs_bl, kIs_int, kIs_str, kIs_tup, kIs_ref, kIsNot_non, kIsNot_bl, kIsNot_int, kIsNot_str, kIsNot_tup, kIsNot_ref, opAdd_int, opAdd_str, opSub_int, opMul_int, opDiv_int, opMod_int, opPow_int, opAnd_int, opOr_int, opNeg_int, eChain_at, kc1_some, kc2_some, kc3_true, kc3_false, kc4_some, tOf_at, kTru_some, kTru2_some, truD_non, truD_bl, truD_int, truD_tup, tAnd_at, kAnd_true, kAnd_false, tOr_at, kOr_true, kOr_false, tNot_at, kNot_some, tYes_at, eAnd_at, keAnd_some, keAnd2_true, keAnd2_false, eOr_at, keOr_some, keOr2_true, keOr2_false, eNot_at, keNot_some, keNot2_some, eIf_at, keIf_true, keIf_false, aNil_at, aCons_at, ka1_some, ka2_some, eTup_at, kTup_0, kTup_1, kTup_2, kTup_3, kTup_4, kTup_5, kTup_6, eLst_at, kLst_0, kLst_1, kLst_2, kLst_3, kLst_4, eDic0_at, eCall_at, kCall_some, o1_at, isiO_at, kIsi_some, tyD_non, tyD_bl, tyD_int, tyD_str, tyD_tup, eBM_at, kbm1_some, kbm2_some, eSl_at, ks2_some, ks3_some, ks4_some, oNone_at, oSome_at, kSome_int, slO_str, sSeq_at, kSeq_nx, kSeq_rt, kSeq_bk, kSeq_ct, sNext_at, sBreak_at, sCont_at, sRetN_at, sRet_at, kRet_some, sExpr_at, kExpr_some, sSet_at, kSet_some, sIf_at, kIf_true, kIf_false, sPar2_k, kPar2_some, sPar3_k, kPar3_some, sAsg_at, kAsg_some, kAsg2_some, mName_at, mTup_2, mTup_3, mCons_at, kmCons_some, mNil_at, sPut_at, kp1_some, kp2_some, kp3_some, kp4_some, kFn_rt, kFn_nx, mkFn_0, mkFn_1, mkFn_2, mkFn_3, mkFn_4, mkFn_5, sWhile_at, List.getElem?_cons_zero, List.getElem?_cons_succ, List.set_cons_zero, List.set_cons_succ, List.replicate_succ, List.replicate_zero, Nat.reduceSub, Bool.not_true, Bool.not_false, ite_true, ite_false, if_true, if_false, reduceCtorEq, fldM_at, sFldM_at, kSF1_some, kSF2_some, kSF3_some, sFldAddM_at, kSA1_some, kSA2_int, eMake_at, kMk1_some, kMk2_some, isCM_at, isCO_non, eGet1_at, kG12_some, kG13_some, eGet2_at, kG22_some, kG23_some, eCallD_at, kCallD_some, eKdx_at, kKdx_some, kIsB_at, atI0, atI1, eq_str, ixO_tup, lenO_tup, mTup_2, eqO_int, List.cons.injEq, Nat.reduceEqDiff, decide_false, decide_true, and_false, and_true, false_and, true_and, Bool.or_false, Bool.or_true, Bool.true_or, Bool.false_or, Bool.and_true, Bool.and_false, Bool.false_and, Bool.true_and, Int.reduceLE, Int.reduceLT, cDv_2, cMd_2, gDv_2, gMd_2, cDv_3, cMd_3, gDv_3, gMd_3, cDv_4, cMd_4, gDv_4, gMd_4, cDv_5, cMd_5, gDv_5, gMd_5, cDv_7, cMd_7, gDv_7, gMd_7, cDv_8, cMd_8, gDv_8, gMd_8, cDv_9, cMd_9, gDv_9, gMd_9, cDv_12, cMd_12, gDv_12, gMd_12, cDv_16, cMd_16, gDv_16, gMd_16, cDv_28, cMd_28, gDv_28, gMd_28, cDv_140, cMd_140, gDv_140, gMd_140, cDv_900, cMd_900, gDv_900, gMd_900, e1, kF2_nx, e2]
    · rw [List.length_cons]
      exact (show k + 1 + r.length = k + (r.length + 1) by omega) ▸ h2
theorem cutG_map {α β : Type} (f : α → β) (xs : List α) (lo hi : Option Int) : cutG (xs.map f) lo hi = (cutG xs lo hi).map f := by
  unfold cutG
  rw [List.length_map, List.map_take, List.map_drop]
theorem start_iv (ns cs : List Int) : Iv ns cs 0 [] THS ((.fz (ns.map D.int) :: .lst (cs.map D.int) :: .lst [.int 0] :: W0) ++ [.lst []]) :=
  ⟨by rfl, by rfl, by rfl, ⟨(memC (by rfl) (memC (by rfl) (memC (by rfl) (memC (by rfl) (memC (by rfl) (memC (by rfl) (memC (by rfl) (memC (by rfl) (memC (by rfl) (memC (by rfl) (memC (by rfl) (memC (by rfl) (memC (by rfl) (memC (by rfl) (memC (by rfl) (memC (by rfl) (memC (by rfl) (memC (by rfl) (memC (by rfl) (memC (by rfl) (memC (by rfl) (memC (by rfl) memN)))))))))))))))))))))), by rfl, ⟨[], by rfl⟩, by decide⟩, by rfl, (fun v hv => by cases hv), (fun a b v v' h => by simp at h)⟩
theorem law_true (ns : List Int) (hns : ns.length ≤ 63) : ∃ st', F_law [.ref 0] [.fz (ns.map D.int)] = some (.bl true, st') := by
  have e0 : slO (.ref 0) (some 1) (some 40) [.fz (ns.map D.int)] = some (.ref 1, [.fz (ns.map D.int), .lst ((cutG ns (some 1) (some 40)).map D.int)]) := by
    rw [← cutG_map]
    rfl
  generalize hc : cutG ns (some 1) (some 40) = cs at e0
  have hcl : cs.length ≤ 63 := by
    rw [← hc]
    exact Nat.le_trans (cutG_len _ _ _) hns
  have hlen : (cs.length : Int).natAbs.log2 < 9000 := by
    have h2 : cs.length < 2 ^ 100 := by
      have h3 : (2 : Nat) ^ 100 = 1267650600228229401496703205376 := by decide
      omega
    have := PySem.Flt.log2_lt_of (n := cs.length) (k := 100) (by decide) h2
    rw [Int.natAbs_natCast]
    omega
  have k1 : kLst (some ([.int 0], [.fz (ns.map D.int), .lst (cs.map D.int)])) = some (.ref 2, [.fz (ns.map D.int), .lst (cs.map D.int), .lst [.int 0]]) := rfl
  have k2 : kLst (some ([], [.fz (ns.map D.int), .lst (cs.map D.int), .lst [.int 0]])) = some (.ref 3, [.fz (ns.map D.int), .lst (cs.map D.int), .lst [.int 0], .lst []]) := rfl
  have k3 : kMk1 8 F_World_init (some ([.ref 3], [.fz (ns.map D.int), .lst (cs.map D.int), .lst [.int 0], .lst []])) = some (.ref 4, .fz (ns.map D.int) :: .lst (cs.map D.int) :: .lst [.int 0] :: W0) := by
    show kMk2 4 (F_World_init [.ref 4, .ref 3] [.fz (ns.map D.int), .lst (cs.map D.int), .lst [.int 0], .lst [], .ins 8 []]) = _
    rw [world0]
    rfl
  have k4 : kLst (some ([], .fz (ns.map D.int) :: .lst (cs.map D.int) :: .lst [.int 0] :: W0)) = some (.ref 41, (.fz (ns.map D.int) :: .lst (cs.map D.int) :: .lst [.int 0] :: W0) ++ [.lst []]) := rfl
  have i0 := start_iv ns cs
  generalize ((.fz (ns.map D.int) :: .lst (cs.map D.int) :: .lst [.int 0] :: W0) ++ [.lst []] : Sto) = st0 at k4 i0
  have rd0 : ∀ {k gvs ths st}, Iv ns cs k gvs ths st → rdL st 0 = some (ns.map D.int) := fun h => by
    unfold rdL
    rw [h.a]
  obtain ⟨x, ex⟩ := cell_at (k := 0) (rd0 i0)
  have ex : F_l_cell_at [.ref 0, .int 0] st0 = some (.int x, st0) := ex
  have m0 : 0 ≤ 1 + x % 4 := by omega
  obtain ⟨m, hm⟩ := Int.eq_ofNat_of_zero_le m0
  have hm4 : 0 + m ≤ 4 := by omega
  obtain ⟨g1, t1, s1, y5, y6, e1, i1, l1, l2⟩ := fives (some (.ref 0)) none none none none none m 0 [] THS st0 i0 hm4 (by simp; omega) (by show 20 + m < 1000; omega) none none
  have f1 : sFor (iR1 (aCons (eBin opAdd (eC (.int 1)) (eBin opMod (eCall F_l_cell_at (aCons (eVar 0) (aCons (eC (.int 0)) aNil))) (eC (.int 4)))) aNil)) (mName 5) uF_law_5 (rhoL (some (.ref 0)) none none none none none none none) st0 = some (.nx, rhoL (some (.ref 0)) y5 y6 none none none none none, s1) := by
    have hl : m ≤ LIM := by
      unfold LIM
      omega
    rw [sFor_run (st' := st0) (ds := rngD 0 m) (by simp only [iR1_at, eVar_at, kVar_some, eC_at, eBin_at, k2_some, k3_some, eUn_at, k1_some, kVal_some, kBl_some, kEq_at, kBlN_some, kNe_at, kIn_at, kNotIn_at, kIx_at, ixO_tup, kLt_int, kLe_int, kGt_int, kGe_int, kLt_str, kLe_str, kGt_str, kGe_str, kIs_non, kIs_bl, kIs_int, kIs_str, kIs_tup, kIs_ref, kIsNot_non, kIsNot_bl, kIsNot_int, kIsNot_str, kIsNot_tup, kIsNot_ref, opAdd_int, opAdd_str, opSub_int, opMul_int, opDiv_int, opMod_int, opPow_int, opAnd_int, opOr_int, opNeg_int, eChain_at, kc1_some, kc2_some, kc3_true, kc3_false, kc4_some, tOf_at, kTru_some, kTru2_some, truD_non, truD_bl, truD_int, truD_tup, tAnd_at, kAnd_true, kAnd_false, tOr_at, kOr_true, kOr_false, tNot_at, kNot_some, tYes_at, eAnd_at, keAnd_some, keAnd2_true, keAnd2_false, eOr_at, keOr_some, keOr2_true, keOr2_false, eNot_at, keNot_some, keNot2_some, eIf_at, keIf_true, keIf_false, aNil_at, aCons_at, ka1_some, ka2_some, eTup_at, kTup_0, kTup_1, kTup_2, kTup_3, kTup_4, kTup_5, kTup_6, eLst_at, kLst_0, kLst_1, kLst_2, kLst_3, kLst_4, eDic0_at, eCall_at, kCall_some, o1_at, isiO_at, kIsi_some, tyD_non, tyD_bl, tyD_int, tyD_str, tyD_tup, eBM_at, kbm1_some, kbm2_some, eSl_at, ks2_some, ks3_some, ks4_some, oNone_at, oSome_at, kSome_int, slO_str, sSeq_at, kSeq_nx, kSeq_rt, kSeq_bk, kSeq_ct, sNext_at, sBreak_at, sCont_at, sRetN_at, sRet_at, kRet_some, sExpr_at, kExpr_some, sSet_at, kSet_some, sIf_at, kIf_true, kIf_false, sPar2_k, kPar2_some, sPar3_k, kPar3_some, sAsg_at, kAsg_some, kAsg2_some, mName_at, mTup_2, mTup_3, mCons_at, kmCons_some, mNil_at, sPut_at, kp1_some, kp2_some, kp3_some, kp4_some, kFn_rt, kFn_nx, mkFn_0, mkFn_1, mkFn_2, mkFn_3, mkFn_4, mkFn_5, sWhile_at, List.getElem?_cons_zero, List.getElem?_cons_succ, List.set_cons_zero, List.set_cons_succ, List.replicate_succ, List.replicate_zero, Nat.reduceSub, Bool.not_true, Bool.not_false, ite_true, ite_false, if_true, if_false, reduceCtorEq, fldM_at, sFldM_at, kSF1_some, kSF2_some, kSF3_some, sFldAddM_at, kSA1_some, kSA2_int, eMake_at, kMk1_some, kMk2_some, isCM_at, isCO_non, eGet1_at, kG12_some, kG13_some, eGet2_at, kG22_some, kG23_some, eCallD_at, kCallD_some, eKdx_at, kKdx_some, kIsB_at, atI0, atI1, eq_str, ixO_tup, lenO_tup, mTup_2, eqO_int, List.cons.injEq, Nat.reduceEqDiff, decide_false, decide_true, and_false, and_true, false_and, true_and, Bool.or_false, Bool.or_true, Bool.true_or, Bool.false_or, Bool.and_true, Bool.and_false, Bool.false_and, Bool.true_and, Int.reduceLE, Int.reduceLT, cDv_2, cMd_2, gDv_2, gMd_2, cDv_3, cMd_3, gDv_3, gMd_3, cDv_4, cMd_4, gDv_4, gMd_4, cDv_5, cMd_5, gDv_5, gMd_5, cDv_7, cMd_7, gDv_7, gMd_7, cDv_8, cMd_8, gDv_8, gMd_8, cDv_9, cMd_9, gDv_9, gMd_9, cDv_12, cMd_12, gDv_12, gMd_12, cDv_16, cMd_16, gDv_16, gMd_16, cDv_28, cMd_28, gDv_28, gMd_28, cDv_140, cMd_140, gDv_140, gMd_140, cDv_900, cMd_900, gDv_900, gMd_900, ex, hm]; exact kR1_some hl)]
    exact e1
  have hth : THS.length = 20 := by rfl
  obtain ⟨g2, t2, s2, z5, z7, z8, e2, i2, l3, l4⟩ := fours hlen (some (.ref 0)) y6 none none none (rngD 0 2) 0 g1 t1 s1 i1 (by decide) (by rw [l1, rngD_length]; simp; omega) (by rw [l2, rngD_length, hth]; omega) y5 none none
  have f2 : sFor (iR1 (aCons (eC (.int 2)) aNil)) (mName 5) uF_law_4 (rhoL (some (.ref 0)) y5 y6 none none none none none) s1 = some (.nx, rhoL (some (.ref 0)) z5 y6 z7 z8 none none none, s2) := by
    rw [sFor_run (st' := s1) (ds := rngD 0 2) (by simp only [iR1_at, eVar_at, kVar_some, eC_at, eBin_at, k2_some, k3_some, eUn_at, k1_some, kVal_some, kBl_some, kEq_at, kBlN_some, kNe_at, kIn_at, kNotIn_at, kIx_at, ixO_tup, kLt_int, kLe_int, kGt_int, kGe_int, kLt_str, kLe_str, kGt_str, kGe_str, kIs_non, kIs_bl, kIs_int, kIs_str, kIs_tup, kIs_ref, kIsNot_non, kIsNot_bl, kIsNot_int, kIsNot_str, kIsNot_tup, kIsNot_ref, opAdd_int, opAdd_str, opSub_int, opMul_int, opDiv_int, opMod_int, opPow_int, opAnd_int, opOr_int, opNeg_int, eChain_at, kc1_some, kc2_some, kc3_true, kc3_false, kc4_some, tOf_at, kTru_some, kTru2_some, truD_non, truD_bl, truD_int, truD_tup, tAnd_at, kAnd_true, kAnd_false, tOr_at, kOr_true, kOr_false, tNot_at, kNot_some, tYes_at, eAnd_at, keAnd_some, keAnd2_true, keAnd2_false, eOr_at, keOr_some, keOr2_true, keOr2_false, eNot_at, keNot_some, keNot2_some, eIf_at, keIf_true, keIf_false, aNil_at, aCons_at, ka1_some, ka2_some, eTup_at, kTup_0, kTup_1, kTup_2, kTup_3, kTup_4, kTup_5, kTup_6, eLst_at, kLst_0, kLst_1, kLst_2, kLst_3, kLst_4, eDic0_at, eCall_at, kCall_some, o1_at, isiO_at, kIsi_some, tyD_non, tyD_bl, tyD_int, tyD_str, tyD_tup, eBM_at, kbm1_some, kbm2_some, eSl_at, ks2_some, ks3_some, ks4_some, oNone_at, oSome_at, kSome_int, slO_str, sSeq_at, kSeq_nx, kSeq_rt, kSeq_bk, kSeq_ct, sNext_at, sBreak_at, sCont_at, sRetN_at, sRet_at, kRet_some, sExpr_at, kExpr_some, sSet_at, kSet_some, sIf_at, kIf_true, kIf_false, sPar2_k, kPar2_some, sPar3_k, kPar3_some, sAsg_at, kAsg_some, kAsg2_some, mName_at, mTup_2, mTup_3, mCons_at, kmCons_some, mNil_at, sPut_at, kp1_some, kp2_some, kp3_some, kp4_some, kFn_rt, kFn_nx, mkFn_0, mkFn_1, mkFn_2, mkFn_3, mkFn_4, mkFn_5, sWhile_at, List.getElem?_cons_zero, List.getElem?_cons_succ, List.set_cons_zero, List.set_cons_succ, List.replicate_succ, List.replicate_zero, Nat.reduceSub, Bool.not_true, Bool.not_false, ite_true, ite_false, if_true, if_false, reduceCtorEq, fldM_at, sFldM_at, kSF1_some, kSF2_some, kSF3_some, sFldAddM_at, kSA1_some, kSA2_int, eMake_at, kMk1_some, kMk2_some, isCM_at, isCO_non, eGet1_at, kG12_some, kG13_some, eGet2_at, kG22_some, kG23_some, eCallD_at, kCallD_some, eKdx_at, kKdx_some, kIsB_at, atI0, atI1, eq_str, ixO_tup, lenO_tup, mTup_2, eqO_int, List.cons.injEq, Nat.reduceEqDiff, decide_false, decide_true, and_false, and_true, false_and, true_and, Bool.or_false, Bool.or_true, Bool.true_or, Bool.false_or, Bool.and_true, Bool.and_false, Bool.false_and, Bool.true_and, Int.reduceLE, Int.reduceLT, cDv_2, cMd_2, gDv_2, gMd_2, cDv_3, cMd_3, gDv_3, gMd_3, cDv_4, cMd_4, gDv_4, gMd_4, cDv_5, cMd_5, gDv_5, gMd_5, cDv_7, cMd_7, gDv_7, gMd_7, cDv_8, cMd_8, gDv_8, gMd_8, cDv_9, cMd_9, gDv_9, gMd_9, cDv_12, cMd_12, gDv_12, gMd_12, cDv_16, cMd_16, gDv_16, gMd_16, cDv_28, cMd_28, gDv_28, gMd_28, cDv_140, cMd_140, gDv_140, gMd_140, cDv_900, cMd_900, gDv_900, gMd_900]; exact kR1_some (n := 2) (by decide))]
    exact e2
  rw [rngD_length] at l3 l4 i2
  obtain ⟨g3, t3, s3, k', z9, z10, e3, i3, l5, l6⟩ := turns3 hlen (some (.ref 0)) z5 y6 z7 z8 none (rngD 0 30) (0 + 2) g2 t2 s2 i2 (by omega) (by rw [rngD_length]; omega) (by rw [rngD_length, l4, l2, hth]; omega) none none
  have f3 : sFor (iR1 (aCons (eC (.int 30)) aNil)) (mName 9) uF_law_3 (rhoL (some (.ref 0)) z5 y6 z7 z8 none none none) s2 = some (.nx, rhoL (some (.ref 0)) z5 y6 z7 z8 z9 z10 none, s3) := by
    rw [sFor_run (st' := s2) (ds := rngD 0 30) (by simp only [iR1_at, eVar_at, kVar_some, eC_at, eBin_at, k2_some, k3_some, eUn_at, k1_some, kVal_some, kBl_some, kEq_at, kBlN_some, kNe_at, kIn_at, kNotIn_at, kIx_at, ixO_tup, kLt_int, kLe_int, kGt_int, kGe_int, kLt_str, kLe_str, kGt_str, kGe_str, kIs_non, kIs_bl, kIs_int, kIs_str, kIs_tup, kIs_ref, kIsNot_non, kIsNot_bl, kIsNot_int, kIsNot_str, kIsNot_tup, kIsNot_ref, opAdd_int, opAdd_str, opSub_int, opMul_int, opDiv_int, opMod_int, opPow_int, opAnd_int, opOr_int, opNeg_int, eChain_at, kc1_some, kc2_some, kc3_true, kc3_false, kc4_some, tOf_at, kTru_some, kTru2_some, truD_non, truD_bl, truD_int, truD_tup, tAnd_at, kAnd_true, kAnd_false, tOr_at, kOr_true, kOr_false, tNot_at, kNot_some, tYes_at, eAnd_at, keAnd_some, keAnd2_true, keAnd2_false, eOr_at, keOr_some, keOr2_true, keOr2_false, eNot_at, keNot_some, keNot2_some, eIf_at, keIf_true, keIf_false, aNil_at, aCons_at, ka1_some, ka2_some, eTup_at, kTup_0, kTup_1, kTup_2, kTup_3, kTup_4, kTup_5, kTup_6, eLst_at, kLst_0, kLst_1, kLst_2, kLst_3, kLst_4, eDic0_at, eCall_at, kCall_some, o1_at, isiO_at, kIsi_some, tyD_non, tyD_bl, tyD_int, tyD_str, tyD_tup, eBM_at, kbm1_some, kbm2_some, eSl_at, ks2_some, ks3_some, ks4_some, oNone_at, oSome_at, kSome_int, slO_str, sSeq_at, kSeq_nx, kSeq_rt, kSeq_bk, kSeq_ct, sNext_at, sBreak_at, sCont_at, sRetN_at, sRet_at, kRet_some, sExpr_at, kExpr_some, sSet_at, kSet_some, sIf_at, kIf_true, kIf_false, sPar2_k, kPar2_some, sPar3_k, kPar3_some, sAsg_at, kAsg_some, kAsg2_some, mName_at, mTup_2, mTup_3, mCons_at, kmCons_some, mNil_at, sPut_at, kp1_some, kp2_some, kp3_some, kp4_some, kFn_rt, kFn_nx, mkFn_0, mkFn_1, mkFn_2, mkFn_3, mkFn_4, mkFn_5, sWhile_at, List.getElem?_cons_zero, List.getElem?_cons_succ, List.set_cons_zero, List.set_cons_succ, List.replicate_succ, List.replicate_zero, Nat.reduceSub, Bool.not_true, Bool.not_false, ite_true, ite_false, if_true, if_false, reduceCtorEq, fldM_at, sFldM_at, kSF1_some, kSF2_some, kSF3_some, sFldAddM_at, kSA1_some, kSA2_int, eMake_at, kMk1_some, kMk2_some, isCM_at, isCO_non, eGet1_at, kG12_some, kG13_some, eGet2_at, kG22_some, kG23_some, eCallD_at, kCallD_some, eKdx_at, kKdx_some, kIsB_at, atI0, atI1, eq_str, ixO_tup, lenO_tup, mTup_2, eqO_int, List.cons.injEq, Nat.reduceEqDiff, decide_false, decide_true, and_false, and_true, false_and, true_and, Bool.or_false, Bool.or_true, Bool.true_or, Bool.false_or, Bool.and_true, Bool.and_false, Bool.false_and, Bool.true_and, Int.reduceLE, Int.reduceLT, cDv_2, cMd_2, gDv_2, gMd_2, cDv_3, cMd_3, gDv_3, gMd_3, cDv_4, cMd_4, gDv_4, gMd_4, cDv_5, cMd_5, gDv_5, gMd_5, cDv_7, cMd_7, gDv_7, gMd_7, cDv_8, cMd_8, gDv_8, gMd_8, cDv_9, cMd_9, gDv_9, gMd_9, cDv_12, cMd_12, gDv_12, gMd_12, cDv_16, cMd_16, gDv_16, gMd_16, cDv_28, cMd_28, gDv_28, gMd_28, cDv_140, cMd_140, gDv_140, gMd_140, cDv_900, cMd_900, gDv_900, gMd_900]; exact kR1_some (n := 30) (by decide))]
    exact e3
  rw [rngD_length] at l6
  have l1' : g1.length = m := by simpa using l1
  obtain ⟨y, ey⟩ := cell_at (k := 0) (rd0 i3)
  have ey : F_l_cell_at [.ref 0, .int 0] s3 = some (.int y, s3) := ey
  -- far right
  have fx : ∃ e : Nat, e ≤ 10000 ∧ ∀ b : Bool, b = (y / 4 % 9 == 1) → ixO (.ref s3.length) (.int (if b = true then 1 else 0)) (s3 ++ [.lst [D.int (210 + y / 4 % 900), .int 10000]]) = some (.int (e : Nat)) := by
    by_cases c : y / 4 % 9 = 1
    · refine ⟨10000, Nat.le_refl _, fun b hb => ?_⟩
      have : b = true := by rw [hb]; exact beq_iff_eq.mpr c
      subst this
      exact ixO_end.trans (L2.atI_nat (j := 1) rfl)
    · have p0 : 0 ≤ 210 + y / 4 % 900 := by omega
      obtain ⟨e, he⟩ := Int.eq_ofNat_of_zero_le p0
      refine ⟨e, by omega, fun b hb => ?_⟩
      have : b = false := by rw [hb]; exact beq_eq_false_iff_ne.mpr c
      subst this
      rw [he]
      exact ixO_end.trans (L2.atI_nat (j := 0) rfl)
  obtain ⟨e, he, hx⟩ := fx
  have hx := hx _ rfl
  have i4 := i3.grow [.lst [D.int (210 + y / 4 % 900), .int 10000]]
  have lt3 : t3.length < 90000 := by omega
  obtain ⟨s5, t5, f4, w5, o5, more, rfl⟩ := far_is i4.w lt3 e he
  have i5 := i4.low o5 w5
  -- all givers
  have all : eLc [10] (iV (eVar 4)) (mName 10) tYesM eC_law_1 (rhoL (some (.ref 0)) z5 y6 z7 z8 z9 z10 (some (.int y))) s5 = some (.ref s5.length, s5 ++ [.lst ((g3.map fun v => D.ref v.d).map fun _ => D.bl true)]) := by
    refine eLc_calmC (iV_lst (k := 41) (st' := s5) rfl i5.rd) (fun acc => rdL_grow i5.rd) ?_ fun d hd acc => ?_
    · rw [List.length_map]
      unfold LIM
      omega
    · obtain ⟨v, hv, rfl⟩ := List.mem_map.mp hd
      have i6 := i5.grow [.lst acc]
      obtain ⟨g1, _⟩ := i6.g v hv
      have gi := giver_of i6.w g1.i g1.r (by decide)
      refine ⟨_, rfl, ?_⟩
      simp only [eC_law_1, wipeD, eVar_at, kVar_some, eC_at, eBin_at, k2_some, k3_some, eUn_at, k1_some, kVal_some, kBl_some, kEq_at, kBlN_some, kNe_at, kIn_at, kNotIn_at, kIx_at, ixO_tup, kLt_int, kLe_int, kGt_int, kGe_int, kLt_str, kLe_str, kGt_str, kGe_str, kIs_non, kIs_bl, kIs_int, kIs_str, kIs_tup, kIs_ref, kIsNot_non, kIsNot_bl, kIsNot_int, kIsNot_str, kIsNot_tup, kIsNot_ref, opAdd_int, opAdd_str, opSub_int, opMul_int, opDiv_int, opMod_int, opPow_int, opAnd_int, opOr_int, opNeg_int, eChain_at, kc1_some, kc2_some, kc3_true, kc3_false, kc4_some, tOf_at, kTru_some, kTru2_some, truD_non, truD_bl, truD_int, truD_tup, tAnd_at, kAnd_true, kAnd_false, tOr_at, kOr_true, kOr_false, tNot_at, kNot_some, tYes_at, eAnd_at, keAnd_some, keAnd2_true, keAnd2_false, eOr_at, keOr_some, keOr2_true, keOr2_false, eNot_at, keNot_some, keNot2_some, eIf_at, keIf_true, keIf_false, aNil_at, aCons_at, ka1_some, ka2_some, eTup_at, kTup_0, kTup_1, kTup_2, kTup_3, kTup_4, kTup_5, kTup_6, eLst_at, kLst_0, kLst_1, kLst_2, kLst_3, kLst_4, eDic0_at, eCall_at, kCall_some, o1_at, isiO_at, kIsi_some, tyD_non, tyD_bl, tyD_int, tyD_str, tyD_tup, eBM_at, kbm1_some, kbm2_some, eSl_at, ks2_some, ks3_some, ks4_some, oNone_at, oSome_at, kSome_int, slO_str, sSeq_at, kSeq_nx, kSeq_rt, kSeq_bk, kSeq_ct, sNext_at, sBreak_at, sCont_at, sRetN_at, sRet_at, kRet_some, sExpr_at, kExpr_some, sSet_at, kSet_some, sIf_at, kIf_true, kIf_false, sPar2_k, kPar2_some, sPar3_k, kPar3_some, sAsg_at, kAsg_some, kAsg2_some, mName_at, mTup_2, mTup_3, mCons_at, kmCons_some, mNil_at, sPut_at, kp1_some, kp2_some, kp3_some, kp4_some, kFn_rt, kFn_nx, mkFn_0, mkFn_1, mkFn_2, mkFn_3, mkFn_4, mkFn_5, sWhile_at, List.getElem?_cons_zero, List.getElem?_cons_succ, List.set_cons_zero, List.set_cons_succ, List.replicate_succ, List.replicate_zero, Nat.reduceSub, Bool.not_true, Bool.not_false, ite_true, ite_false, if_true, if_false, reduceCtorEq, fldM_at, sFldM_at, kSF1_some, kSF2_some, kSF3_some, sFldAddM_at, kSA1_some, kSA2_int, eMake_at, kMk1_some, kMk2_some, isCM_at, isCO_non, eGet1_at, kG12_some, kG13_some, eGet2_at, kG22_some, kG23_some, eCallD_at, kCallD_some, eKdx_at, kKdx_some, kIsB_at, atI0, atI1, eq_str, ixO_tup, lenO_tup, mTup_2, eqO_int, List.cons.injEq, Nat.reduceEqDiff, decide_false, decide_true, and_false, and_true, false_and, true_and, Bool.or_false, Bool.or_true, Bool.true_or, Bool.false_or, Bool.and_true, Bool.and_false, Bool.false_and, Bool.true_and, Int.reduceLE, Int.reduceLT, cDv_2, cMd_2, gDv_2, gMd_2, cDv_3, cMd_3, gDv_3, gMd_3, cDv_4, cMd_4, gDv_4, gMd_4, cDv_5, cMd_5, gDv_5, gMd_5, cDv_7, cMd_7, gDv_7, gMd_7, cDv_8, cMd_8, gDv_8, gMd_8, cDv_9, cMd_9, gDv_9, gMd_9, cDv_12, cMd_12, gDv_12, gMd_12, cDv_16, cMd_16, gDv_16, gMd_16, cDv_28, cMd_28, gDv_28, gMd_28, cDv_140, cMd_140, gDv_140, gMd_140, cDv_900, cMd_900, gDv_900, gMd_900, g1.ix_giver, gi, show decide (6 ∈ [6]) = true by decide]
  have al : allO (.ref s5.length) (s5 ++ [.lst ((g3.map fun v => D.ref v.d).map fun _ => D.bl true)]) = some (.bl true) := by
    have := allO_end s5 (g3.map fun v => D.ref v.d) (fun _ => true) []
    rw [this]
    simp
  have no : ∀ s : Sto, F_is_giver [.ref 4, aNo] s = some (.bl false, s) := fun s => giver_no (by decide)
  refine ⟨s5 ++ [.lst ((g3.map fun v => D.ref v.d).map fun _ => D.bl true)], ?_⟩
  simp only [F_law, b_law, eVar_at, kVar_some, eC_at, eBin_at, k2_some, k3_some, eUn_at, k1_some, kVal_some, kBl_some, kEq_at, kBlN_some, kNe_at, kIn_at, kNotIn_at, kIx_at, ixO_tup, kLt_int, kLe_int, kGt_int, kGe_int, kLt_str, kLe_str, kGt_str, kGe_str, kIs_non, kIs_bl, kIs_int, kIs_str, kIs_tup, kIs_ref, kIsNot_non, kIsNot_bl, kIsNot_int, kIsNot_str, kIsNot_tup, kIsNot_ref, opAdd_int, opAdd_str, opSub_int, opMul_int, opDiv_int, opMod_int, opPow_int, opAnd_int, opOr_int, opNeg_int, eChain_at, kc1_some, kc2_some, kc3_true, kc3_false, kc4_some, tOf_at, kTru_some, kTru2_some, truD_non, truD_bl, truD_int, truD_tup, tAnd_at, kAnd_true, kAnd_false, tOr_at, kOr_true, kOr_false, tNot_at, kNot_some, tYes_at, eAnd_at, keAnd_some, keAnd2_true, keAnd2_false, eOr_at, keOr_some, keOr2_true, keOr2_false, eNot_at, keNot_some, keNot2_some, eIf_at, keIf_true, keIf_false, aNil_at, aCons_at, ka1_some, ka2_some, eTup_at, kTup_0, kTup_1, kTup_2, kTup_3, kTup_4, kTup_5, kTup_6, eLst_at, kLst_0, kLst_1, kLst_2, kLst_3, kLst_4, eDic0_at, eCall_at, kCall_some, o1_at, isiO_at, kIsi_some, tyD_non, tyD_bl, tyD_int, tyD_str, tyD_tup, eBM_at, kbm1_some, kbm2_some, eSl_at, ks2_some, ks3_some, ks4_some, oNone_at, oSome_at, kSome_int, slO_str, sSeq_at, kSeq_nx, kSeq_rt, kSeq_bk, kSeq_ct, sNext_at, sBreak_at, sCont_at, sRetN_at, sRet_at, kRet_some, sExpr_at, kExpr_some, sSet_at, kSet_some, sIf_at, kIf_true, kIf_false, sPar2_k, kPar2_some, sPar3_k, kPar3_some, sAsg_at, kAsg_some, kAsg2_some, mName_at, mTup_2, mTup_3, mCons_at, kmCons_some, mNil_at, sPut_at, kp1_some, kp2_some, kp3_some, kp4_some, kFn_rt, kFn_nx, mkFn_0, mkFn_1, mkFn_2, mkFn_3, mkFn_4, mkFn_5, sWhile_at, List.getElem?_cons_zero, List.getElem?_cons_succ, List.set_cons_zero, List.set_cons_succ, List.replicate_succ, List.replicate_zero, Nat.reduceSub, Bool.not_true, Bool.not_false, ite_true, ite_false, if_true, if_false, reduceCtorEq, fldM_at, sFldM_at, kSF1_some, kSF2_some, kSF3_some, sFldAddM_at, kSA1_some, kSA2_int, eMake_at, kMk1_some, kMk2_some, isCM_at, isCO_non, eGet1_at, kG12_some, kG13_some, eGet2_at, kG22_some, kG23_some, eCallD_at, kCallD_some, eKdx_at, kKdx_some, kIsB_at, atI0, atI1, eq_str, ixO_tup, lenO_tup, mTup_2, eqO_int, List.cons.injEq, Nat.reduceEqDiff, decide_false, decide_true, and_false, and_true, false_and, true_and, Bool.or_false, Bool.or_true, Bool.true_or, Bool.false_or, Bool.and_true, Bool.and_false, Bool.false_and, Bool.true_and, Int.reduceLE, Int.reduceLT, cDv_2, cMd_2, gDv_2, gMd_2, cDv_3, cMd_3, gDv_3, gMd_3, cDv_4, cMd_4, gDv_4, gMd_4, cDv_5, cMd_5, gDv_5, gMd_5, cDv_7, cMd_7, gDv_7, gMd_7, cDv_8, cMd_8, gDv_8, gMd_8, cDv_9, cMd_9, gDv_9, gMd_9, cDv_12, cMd_12, gDv_12, gMd_12, cDv_16, cMd_16, gDv_16, gMd_16, cDv_28, cMd_28, gDv_28, gMd_28, cDv_140, cMd_140, gDv_140, gMd_140, cDv_900, cMd_900, gDv_900, gMd_900, e0, k1, k2, k3, k4, f1, f2, f3, ey, intO, hx, f4, all, al, no, -kLst_1, -kLst_0, -kMk1_some]
end Math

open PySem PySem.W PyProof.Rows
set_option maxRecDepth 100000 in
set_option maxHeartbeats 0 in
theorem PySem.Challenge.cw_grassnake_k13_givers_holds : PySem.Challenge.rw_grassnake_k13_givers.Holds := by
  w_on; o_law; k_head; (case hw => w_witness2)
  k_fill
  refine MP.walk (l := PySem.Challenge.rw_grassnake_k13_givers) (x := "_law_script") (k := 10) rfl rfl ⟨rfl, by decide, by decide⟩ (fun w h Y => PySem.W.kIn_of Y) ?F
  case F =>
    intro w mg fa h KX G hmg
    refine' Text.all_mk KX G hmg ?gC0 ?pg0 ?hd0 ?po0 ?sa0 ?cc0 ?mr0 ?gC1 ?pg1 ?hd1 ?po1 ?sa1 ?cc1 ?mr1 ?gC2 ?pg2 ?hd2 ?po2 ?sa2 ?cc2 ?mr2 ?gC3 ?pg3 ?hd3 ?po3 ?sa3 ?cc3 ?mr3 ?gC4 ?pg4 ?hd4 ?po4 ?sa4 ?cc4 ?mr4 ?gC5 ?pg5 ?hd5 ?po5 ?sa5 ?cc5 ?mr5 ?gC6 ?pg6 ?hd6 ?po6 ?sa6 ?cc6 ?mr6 ?gC7 ?pg7 ?hd7 ?po7 ?sa7 ?cc7 ?mr7 ?gC8 ?pg8 ?hd8 ?po8 ?sa8 ?cc8 ?mr8 ?ogs ?otk ?na6_at ?na1_defaults ?na6_end ?na4_fields ?na5_fields ?na6_frame ?na3_function ?na8_given_things ?na4_is_given ?na5_kind ?na8_left ?na8_lines ?na1_name ?na2_name ?na4_name ?na6_name ?na4_order ?na7_order ?na3_owner ?na7_owner ?na1_params ?na6_state ?na8_things ?ci1 ?ti1 ?sn1 ?su0_1 ?su1_1 ?su2_1 ?su3_1 ?su4_1 ?su5_1 ?su6_1 ?su7_1 ?su8_1 ?ci2 ?ti2 ?sn2 ?su0_2 ?su1_2 ?su2_2 ?su3_2 ?su4_2 ?su5_2 ?su6_2 ?su7_2 ?su8_2 ?ci6 ?ti6 ?sn6 ?su0_6 ?su1_6 ?su2_6 ?su3_6 ?su4_6 ?su5_6 ?su6_6 ?su7_6 ?su8_6 ?ci4 ?ti4 ?sn4 ?su0_4 ?su1_4 ?su2_4 ?su3_4 ?su4_4 ?su5_4 ?su6_4 ?su7_4 ?su8_4 ?ci5 ?ti5 ?sn5 ?su0_5 ?su1_5 ?su2_5 ?su3_5 ?su4_5 ?su5_5 ?su6_5 ?su7_5 ?su8_5 ?ci3 ?ti3 ?sn3 ?su0_3 ?su1_3 ?su2_3 ?su3_3 ?su4_3 ?su5_3 ?su6_3 ?su7_3 ?su8_3 ?ci7 ?ti7 ?sn7 ?su0_7 ?su1_7 ?su2_7 ?su3_7 ?su4_7 ?su5_7 ?su6_7 ?su7_7 ?su8_7 ?mk0 ?kc0 ?a0 ?i0 ?l0 ?c0 ?k0 ?mk1 ?kc1 ?a1 ?i1 ?l1 ?c1 ?k1 ?mk2 ?kc2 ?a2 ?i2 ?l2 ?c2 ?k2 ?mk3 ?kc3 ?a3 ?i3 ?l3 ?c3 ?k3 ?mk4 ?kc4 ?a4 ?i4 ?l4 ?c4 ?k4 ?mk5 ?kc5 ?a5 ?i5 ?l5 ?c5 ?k5 ?a6 ?l6 ?c6 ?k6 ?a7 ?l7 ?c7 ?k7 ?mk8 ?kc8 ?a8 ?i8 ?l8 ?c8 ?k8 ?a9 ?l9 ?c9 ?k9 ?a10 ?l10 ?c10 ?k10 ?a11 ?l11 ?c11 ?k11 ?a12 ?l12 ?c12 ?k12 ?a13 ?l13 ?c13 ?k13 ?a14 ?l14 ?c14 ?k14 ?a15 ?l15 ?c15 ?k15 ?a16 ?l16 ?c16 ?k16 ?a17 ?l17 ?c17 ?k17 ?a18 ?l18 ?c18 ?k18 ?a19 ?l19 ?lT19 ?c19 ?k19 ?a20 ?l20 ?c20 ?k20 ?a21 ?l21 ?c21 ?k21 ?a22 ?l22 ?c22 ?k22 ?a23 ?l23 ?c23 ?k23 ?a24 ?l24 ?c24 ?k24 ?a25 ?l25 ?c25 ?k25 ?a26 ?l26 ?c26 ?k26 ?a27 ?l27 ?c27 ?k27 ?a28 ?l28 ?c28 ?k28 ?a29 ?l29 ?c29 ?k29 ?a30 ?l30 ?c30 ?k30 ?a31 ?l31 ?c31 ?k31 ?a32 ?l32 ?c32 ?k32 ?a33 ?l33 ?c33 ?k33 ?a34 ?l34 ?c34 ?k34 ?a35 ?l35 ?c35 ?k35 ?a36 ?l36 ?c36 ?k36 ?a37 ?l37 ?c37 ?k37 ?a38 ?l38 ?c38 ?k38 ?a39 ?l39 ?c39 ?k39 ?a40 ?l40 ?c40 ?k40 ?a41 ?l41 ?c41 ?k41 ?a42 ?l42 ?c42 ?k42 ?a43 ?l43 ?c43 ?k43 ?a44 ?l44 ?c44 ?k44 ?a45 ?l45 ?c45 ?k45 ?a46 ?l46 ?c46 ?k46 ?a47 ?l47 ?c47 ?k47 ?a48 ?l48 ?c48 ?k48 ?a49 ?l49 ?c49 ?k49 ?n_COUNTS ?dl_COUNTS ?dk_COUNTS ?de_COUNTS_7 ?de_COUNTS_6 ?de_COUNTS_5 ?de_COUNTS_4 ?de_COUNTS_3 ?de_COUNTS_2 ?de_COUNTS_1 ?de_COUNTS_0 ?kl1 ?kl4 ?kl7 ?kl10 ?kl13 ?kl16 ?kl19 ?kl22 ?n_ENDED ?kl25 ?n_FAULT ?kl28 ?n_GIVEN_CLASSES ?kl31 ?kl65 ?kl62 ?kl59 ?kl56 ?kl53 ?kl50 ?kl47 ?kl44 ?kl41 ?kl38 ?kl35 ?kl32 ?n_GIVEN_FUNCTIONS ?kl68 ?n_MOST_COUNTED ?n_NONE ?kl77 ?n_WRONG ?kl79 ?z_all ?z_int ?z_isinstance ?z_len ?z_list ?z_range ?z_str ?z_tuple Math.law_true
    (case gC0 => k_is)
    (case pg0 => k_is)
    (case hd0 => k_is)
    (case po0 => k_is)
    (case sa0 => k_is)
    (case cc0 => k_is)
    (case mr0 => k_is)
    (case gC1 => k_is)
    (case pg1 => k_is)
    (case hd1 => k_is)
    (case po1 => k_is)
    (case sa1 => k_is)
    (case cc1 => k_is)
    (case mr1 => k_is)
    (case gC2 => k_is)
    (case pg2 => k_is)
    (case hd2 => k_is)
    (case po2 => k_is)
    (case sa2 => k_is)
    (case cc2 => k_is)
    (case mr2 => k_is)
    (case gC3 => k_is)
    (case pg3 => k_is)
    (case hd3 => k_is)
    (case po3 => k_is)
    (case sa3 => k_is)
    (case cc3 => k_is)
    (case mr3 => k_is)
    (case gC4 => k_is)
    (case pg4 => k_is)
    (case hd4 => k_is)
    (case po4 => k_is)
    (case sa4 => k_is)
    (case cc4 => k_is)
    (case mr4 => k_is)
    (case gC5 => k_is)
    (case pg5 => k_is)
    (case hd5 => k_is)
    (case po5 => k_is)
    (case sa5 => k_is)
    (case cc5 => k_is)
    (case mr5 => k_is)
    (case gC6 => k_is)
    (case pg6 => k_is)
    (case hd6 => k_is)
    (case po6 => k_is)
    (case sa6 => k_is)
    (case cc6 => k_is)
    (case mr6 => k_is)
    (case gC7 => k_is)
    (case pg7 => k_is)
    (case hd7 => k_is)
    (case po7 => k_is)
    (case sa7 => k_is)
    (case cc7 => k_is)
    (case mr7 => k_is)
    (case gC8 => k_is)
    (case pg8 => k_is)
    (case hd8 => k_is)
    (case po8 => k_is)
    (case sa8 => k_is)
    (case cc8 => k_is)
    (case mr8 => k_is)
    (case ogs => k_is)
    (case otk => k_is)
    (case na6_at => k_is)
    (case na1_defaults => k_is)
    (case na6_end => k_is)
    (case na4_fields => k_is)
    (case na5_fields => k_is)
    (case na6_frame => k_is)
    (case na3_function => k_is)
    (case na8_given_things => k_is)
    (case na4_is_given => k_is)
    (case na5_kind => k_is)
    (case na8_left => k_is)
    (case na8_lines => k_is)
    (case na1_name => k_is)
    (case na2_name => k_is)
    (case na4_name => k_is)
    (case na6_name => k_is)
    (case na4_order => k_is)
    (case na7_order => k_is)
    (case na3_owner => k_is)
    (case na7_owner => k_is)
    (case na1_params => k_is)
    (case na6_state => k_is)
    (case na8_things => k_is)
    (case ci1 => k_is)
    (case ti1 => k_is)
    (case sn1 => k_is)
    (case su0_1 => k_is)
    (case su1_1 => k_is)
    (case su2_1 => k_is)
    (case su3_1 => k_is)
    (case su4_1 => k_is)
    (case su5_1 => k_is)
    (case su6_1 => k_is)
    (case su7_1 => k_is)
    (case su8_1 => k_is)
    (case ci2 => k_is)
    (case ti2 => k_is)
    (case sn2 => k_is)
    (case su0_2 => k_is)
    (case su1_2 => k_is)
    (case su2_2 => k_is)
    (case su3_2 => k_is)
    (case su4_2 => k_is)
    (case su5_2 => k_is)
    (case su6_2 => k_is)
    (case su7_2 => k_is)
    (case su8_2 => k_is)
    (case ci6 => k_is)
    (case ti6 => k_is)
    (case sn6 => k_is)
    (case su0_6 => k_is)
    (case su1_6 => k_is)
    (case su2_6 => k_is)
    (case su3_6 => k_is)
    (case su4_6 => k_is)
    (case su5_6 => k_is)
    (case su6_6 => k_is)
    (case su7_6 => k_is)
    (case su8_6 => k_is)
    (case ci4 => k_is)
    (case ti4 => k_is)
    (case sn4 => k_is)
    (case su0_4 => k_is)
    (case su1_4 => k_is)
    (case su2_4 => k_is)
    (case su3_4 => k_is)
    (case su4_4 => k_is)
    (case su5_4 => k_is)
    (case su6_4 => k_is)
    (case su7_4 => k_is)
    (case su8_4 => k_is)
    (case ci5 => k_is)
    (case ti5 => k_is)
    (case sn5 => k_is)
    (case su0_5 => k_is)
    (case su1_5 => k_is)
    (case su2_5 => k_is)
    (case su3_5 => k_is)
    (case su4_5 => k_is)
    (case su5_5 => k_is)
    (case su6_5 => k_is)
    (case su7_5 => k_is)
    (case su8_5 => k_is)
    (case ci3 => k_is)
    (case ti3 => k_is)
    (case sn3 => k_is)
    (case su0_3 => k_is)
    (case su1_3 => k_is)
    (case su2_3 => k_is)
    (case su3_3 => k_is)
    (case su4_3 => k_is)
    (case su5_3 => k_is)
    (case su6_3 => k_is)
    (case su7_3 => k_is)
    (case su8_3 => k_is)
    (case ci7 => k_is)
    (case ti7 => k_is)
    (case sn7 => k_is)
    (case su0_7 => k_is)
    (case su1_7 => k_is)
    (case su2_7 => k_is)
    (case su3_7 => k_is)
    (case su4_7 => k_is)
    (case su5_7 => k_is)
    (case su6_7 => k_is)
    (case su7_7 => k_is)
    (case su8_7 => k_is)
    (case mk0 => k_is)
    (case kc0 => k_is)
    (case a0 => k_is)
    (case i0 => k_is)
    (case l0 => k_is)
    (case c0 => k_is)
    (case k0 => k_is)
    (case mk1 => k_is)
    (case kc1 => k_is)
    (case a1 => k_is)
    (case i1 => k_is)
    (case l1 => k_is)
    (case c1 => k_is)
    (case k1 => k_is)
    (case mk2 => k_is)
    (case kc2 => k_is)
    (case a2 => k_is)
    (case i2 => k_is)
    (case l2 => k_is)
    (case c2 => k_is)
    (case k2 => k_is)
    (case mk3 => k_is)
    (case kc3 => k_is)
    (case a3 => k_is)
    (case i3 => k_is)
    (case l3 => k_is)
    (case c3 => k_is)
    (case k3 => k_is)
    (case mk4 => k_is)
    (case kc4 => k_is)
    (case a4 => k_is)
    (case i4 => k_is)
    (case l4 => k_is)
    (case c4 => k_is)
    (case k4 => k_is)
    (case mk5 => k_is)
    (case kc5 => k_is)
    (case a5 => k_is)
    (case i5 => k_is)
    (case l5 => k_is)
    (case c5 => k_is)
    (case k5 => k_is)
    (case a6 => k_is)
    (case l6 => k_is)
    (case c6 => k_is)
    (case k6 => k_is)
    (case a7 => k_is)
    (case l7 => k_is)
    (case c7 => k_is)
    (case k7 => k_is)
    (case mk8 => k_is)
    (case kc8 => k_is)
    (case a8 => k_is)
    (case i8 => k_is)
    (case l8 => k_is)
    (case c8 => k_is)
    (case k8 => k_is)
    (case a9 => k_is)
    (case l9 => k_is)
    (case c9 => k_is)
    (case k9 => k_is)
    (case a10 => k_is)
    (case l10 => k_is)
    (case c10 => k_is)
    (case k10 => k_is)
    (case a11 => k_is)
    (case l11 => k_is)
    (case c11 => k_is)
    (case k11 => k_is)
    (case a12 => k_is)
    (case l12 => k_is)
    (case c12 => k_is)
    (case k12 => k_is)
    (case a13 => k_is)
    (case l13 => k_is)
    (case c13 => k_is)
    (case k13 => k_is)
    (case a14 => k_is)
    (case l14 => k_is)
    (case c14 => k_is)
    (case k14 => k_is)
    (case a15 => k_is)
    (case l15 => k_is)
    (case c15 => k_is)
    (case k15 => k_is)
    (case a16 => k_is)
    (case l16 => k_is)
    (case c16 => k_is)
    (case k16 => k_is)
    (case a17 => k_is)
    (case l17 => k_is)
    (case c17 => k_is)
    (case k17 => k_is)
    (case a18 => k_is)
    (case l18 => k_is)
    (case c18 => k_is)
    (case k18 => k_is)
    (case a19 => k_is)
    (case l19 => k_is)
    (case lT19 => k_is)
    (case c19 => k_is)
    (case k19 => k_is)
    (case a20 => k_is)
    (case l20 => k_is)
    (case c20 => k_is)
    (case k20 => k_is)
    (case a21 => k_is)
    (case l21 => k_is)
    (case c21 => k_is)
    (case k21 => k_is)
    (case a22 => k_is)
    (case l22 => k_is)
    (case c22 => k_is)
    (case k22 => k_is)
    (case a23 => k_is)
    (case l23 => k_is)
    (case c23 => k_is)
    (case k23 => k_is)
    (case a24 => k_is)
    (case l24 => k_is)
    (case c24 => k_is)
    (case k24 => k_is)
    (case a25 => k_is)
    (case l25 => k_is)
    (case c25 => k_is)
    (case k25 => k_is)
    (case a26 => k_is)
    (case l26 => k_is)
    (case c26 => k_is)
    (case k26 => k_is)
    (case a27 => k_is)
    (case l27 => k_is)
    (case c27 => k_is)
    (case k27 => k_is)
    (case a28 => k_is)
    (case l28 => k_is)
    (case c28 => k_is)
    (case k28 => k_is)
    (case a29 => k_is)
    (case l29 => k_is)
    (case c29 => k_is)
    (case k29 => k_is)
    (case a30 => k_is)
    (case l30 => k_is)
    (case c30 => k_is)
    (case k30 => k_is)
    (case a31 => k_is)
    (case l31 => k_is)
    (case c31 => k_is)
    (case k31 => k_is)
    (case a32 => k_is)
    (case l32 => k_is)
    (case c32 => k_is)
    (case k32 => k_is)
    (case a33 => k_is)
    (case l33 => k_is)
    (case c33 => k_is)
    (case k33 => k_is)
    (case a34 => k_is)
    (case l34 => k_is)
    (case c34 => k_is)
    (case k34 => k_is)
    (case a35 => k_is)
    (case l35 => k_is)
    (case c35 => k_is)
    (case k35 => k_is)
    (case a36 => k_is)
    (case l36 => k_is)
    (case c36 => k_is)
    (case k36 => k_is)
    (case a37 => k_is)
    (case l37 => k_is)
    (case c37 => k_is)
    (case k37 => k_is)
    (case a38 => k_is)
    (case l38 => k_is)
    (case c38 => k_is)
    (case k38 => k_is)
    (case a39 => k_is)
    (case l39 => k_is)
    (case c39 => k_is)
    (case k39 => k_is)
    (case a40 => k_is)
    (case l40 => k_is)
    (case c40 => k_is)
    (case k40 => k_is)
    (case a41 => k_is)
    (case l41 => k_is)
    (case c41 => k_is)
    (case k41 => k_is)
    (case a42 => k_is)
    (case l42 => k_is)
    (case c42 => k_is)
    (case k42 => k_is)
    (case a43 => k_is)
    (case l43 => k_is)
    (case c43 => k_is)
    (case k43 => k_is)
    (case a44 => k_is)
    (case l44 => k_is)
    (case c44 => k_is)
    (case k44 => k_is)
    (case a45 => k_is)
    (case l45 => k_is)
    (case c45 => k_is)
    (case k45 => k_is)
    (case a46 => k_is)
    (case l46 => k_is)
    (case c46 => k_is)
    (case k46 => k_is)
    (case a47 => k_is)
    (case l47 => k_is)
    (case c47 => k_is)
    (case k47 => k_is)
    (case a48 => k_is)
    (case l48 => k_is)
    (case c48 => k_is)
    (case k48 => k_is)
    (case a49 => k_is)
    (case l49 => k_is)
    (case c49 => k_is)
    (case k49 => k_is)
    (case n_COUNTS => k_is)
    (case dl_COUNTS => k_is)
    (case dk_COUNTS => exact ⟨⟨_, _, rfl, rfl⟩, ⟨_, _, rfl, rfl⟩, ⟨_, _, rfl, rfl⟩, ⟨_, _, rfl, rfl⟩, ⟨_, _, rfl, rfl⟩, ⟨_, _, rfl, rfl⟩, ⟨_, _, rfl, rfl⟩, ⟨_, _, rfl, rfl⟩,  trivial⟩)
    (case de_COUNTS_7 => k_is)
    (case de_COUNTS_6 => k_is)
    (case de_COUNTS_5 => k_is)
    (case de_COUNTS_4 => k_is)
    (case de_COUNTS_3 => k_is)
    (case de_COUNTS_2 => k_is)
    (case de_COUNTS_1 => k_is)
    (case de_COUNTS_0 => k_is)
    (case kl1 => k_is)
    (case kl4 => k_is)
    (case kl7 => k_is)
    (case kl10 => k_is)
    (case kl13 => k_is)
    (case kl16 => k_is)
    (case kl19 => k_is)
    (case kl22 => k_is)
    (case n_ENDED => k_is)
    (case kl25 => k_is)
    (case n_FAULT => k_is)
    (case kl28 => k_is)
    (case n_GIVEN_CLASSES => k_is)
    (case kl31 => k_is)
    (case kl65 => k_is)
    (case kl62 => k_is)
    (case kl59 => k_is)
    (case kl56 => k_is)
    (case kl53 => k_is)
    (case kl50 => k_is)
    (case kl47 => k_is)
    (case kl44 => k_is)
    (case kl41 => k_is)
    (case kl38 => k_is)
    (case kl35 => k_is)
    (case kl32 => k_is)
    (case n_GIVEN_FUNCTIONS => k_is)
    (case kl68 => k_is)
    (case n_MOST_COUNTED => k_is)
    (case n_NONE => k_is)
    (case kl77 => k_is)
    (case n_WRONG => k_is)
    (case kl79 => k_is)
    (case z_all => k_is)
    (case z_int => k_is)
    (case z_isinstance => k_is)
    (case z_len => k_is)
    (case z_list => k_is)
    (case z_range => k_is)
    (case z_str => k_is)
    (case z_tuple => k_is)
#print axioms PySem.Challenge.cw_grassnake_k13_givers_holds
