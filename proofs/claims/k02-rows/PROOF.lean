import PyProof.Rows.All
import Wide.All
import OpenK.AllK
import Wide.FinOn
import HandS.ForMost
import HandS.Flow
import HandS.Wide
import HandS.Style
import HandS.IsInst
import HandS.Codes
import HandS.Defaults
import HandS.More
import HandS.TupSets
import HandS.Deep
import HandS.Iter
import HandS.Strs
import HandS.TupAny
import HandS.Conv
import HandS.StrMore
import PySem.Challenge.RW_grassnake_k02_rows_and_indents
import KE.IntTextLaws
set_option Elab.async false
set_option linter.all false
set_option maxRecDepth 100000
namespace MP
open PySem PySem.Spec PyProof.Rows L2
inductive D where
  | non
  | bl (b : Bool)
  | int (i : Int)
  | str (l : List Nat)
  | tup (ds : List D)
  | ref (n : Nat)
inductive Ob where
  | lst (ds : List D)
  | fz (ds : List D)
  | dic (kvs : List (Key × D))
  | fd (kvs : List (Key × D))
  | ft (ds : List D)
  | ins (c : Nat) (fs : List (Str × D))
abbrev Sto := List Ob
def mkS (l : List Nat) : Str := ⟨l.toArray⟩
theorem mkS_len (l : List Nat) : (mkS l).length = l.length := by simp [mkS, Str.length]
theorem mkS_tl (l : List Nat) : (mkS l).cps.toList = l := rfl
theorem mkS_inj {l m : List Nat} (h : mkS l = mkS m) : l = m := by
  have := congrArg (fun s : Str => s.cps.toList) h
  exact this
theorem mkS_of (z : Str) : mkS z.cps.toList = z := by
  cases z
  rfl
def okS (l : List Nat) : Bool := l.all fun c => decide (c < 1114112)
theorem okS_mem {l : List Nat} (h : okS l = true) : ∀ c ∈ l, c < 1114112 := fun c hc => of_decide_eq_true (List.all_eq_true.mp h c hc)
theorem okS_of {l : List Nat} (h : ∀ c ∈ l, c < 1114112) : okS l = true := List.all_eq_true.mpr fun c hc => decide_eq_true (h c hc)
theorem okS_app {l m : List Nat} (h : okS l = true) (h2 : okS m = true) : okS (l ++ m) = true := okS_of fun c hc => (List.mem_append.mp hc).elim (okS_mem h c) (okS_mem h2 c)
theorem okS_sub {l m : List Nat} (h : okS l = true) (s : ∀ c ∈ m, c ∈ l) : okS m = true := okS_of fun c hc => okS_mem h c (s c hc)
mutual
inductive VR (K : PySem.W.Frag) (as : List Addr) (H : Hp) : D → V → Prop
  | non : VR K as H .non .non
  | bl (b : Bool) : VR K as H (.bl b) (.bl b)
  | int (i : Int) : VR K as H (.int i) (.int i)
  | str {l : List Nat} : okS l = true → VR K as H (.str l) (.str (mkS l))
  | tup {a : Addr} {xs : List V} {ds : List D} : SqT K H a xs → VRs K as H ds xs → VR K as H (.tup ds) (.ref a)
  | ref {n : Nat} {a : Addr} : as[n]? = some a → VR K as H (.ref n) (.ref a)
inductive VRs (K : PySem.W.Frag) (as : List Addr) (H : Hp) : List D → List V → Prop
  | nil : VRs K as H [] []
  | cons {d : D} {ds : List D} {v : V} {vs : List V} : VR K as H d v → VRs K as H ds vs → VRs K as H (d :: ds) (v :: vs)
end
structure Ext (K : PySem.W.Frag) (as : List Addr) (H : Hp) (as' : List Addr) (H' : Hp) : Prop where
  pre : ∃ m, as' = as ++ m
  tup : ∀ a xs, SqT K H a xs → SqT K H' a xs
  frz : ∀ a o u, H a = some (.frz o u) → H' a = some (.frz o u)
section
variable {K : PySem.W.Frag} {as as' as'' : List Addr} {H H' H'' : Hp} {d : D} {v : V} {ds : List D} {vs : List V}
theorem Ext.refl : Ext K as H as H := ⟨⟨[], by simp⟩, fun _ _ h => h, fun _ _ _ h => h⟩
theorem Ext.trans (a : Ext K as H as' H') (b : Ext K as' H' as'' H'') : Ext K as H as'' H'' := by
  obtain ⟨m, e⟩ := a.pre
  obtain ⟨n, e2⟩ := b.pre
  exact ⟨⟨m ++ n, by rw [e2, e, List.append_assoc]⟩, fun x xs h => b.tup x xs (a.tup x xs h), fun x o u h => b.frz x o u (a.frz x o u h)⟩
theorem Ext.at (x : Ext K as H as' H') {n : Nat} {a : Addr} (h : as[n]? = some a) : as'[n]? = some a := by
  obtain ⟨m, e⟩ := x.pre
  rw [e, List.getElem?_append_left (List.getElem?_eq_some_iff.mp h).1]
  exact h
mutual
theorem VR.mono (x : Ext K as H as' H') : ∀ {d : D} {v : V}, VR K as H d v → VR K as' H' d v
  | _, _, .non => .non
  | _, _, .bl b => .bl b
  | _, _, .int i => .int i
  | _, _, .str h => .str h
  | _, _, .tup h r => .tup (x.tup _ _ h) (VRs.mono x r)
  | _, _, .ref h => .ref (x.at h)
theorem VRs.mono (x : Ext K as H as' H') : ∀ {ds : List D} {vs : List V}, VRs K as H ds vs → VRs K as' H' ds vs
  | _, _, .nil => .nil
  | _, _, .cons a b => .cons (VR.mono x a) (VRs.mono x b)
end
theorem VRs.length : ∀ {ds : List D} {vs : List V}, VRs K as H ds vs → ds.length = vs.length
  | _, _, .nil => rfl
  | _, _, .cons _ t => by rw [List.length_cons, List.length_cons, t.length]
theorem VRs.get : ∀ {ds : List D} {vs : List V} {i : Nat} {d : D}, VRs K as H ds vs → ds[i]? = some d → ∃ v, vs[i]? = some v ∧ VR K as H d v
  | _, _, _, _, .nil, e => by simp at e
  | _, _, 0, _, .cons r _, e => by
    simp at e
    subst e
    exact ⟨_, rfl, r⟩
  | _, _, i + 1, d, .cons _ t, e => by
    obtain ⟨u, h1, h2⟩ := VRs.get (i := i) (d := d) t (by simpa using e)
    exact ⟨u, by simpa using h1, h2⟩
theorem VRs.set {d : D} {v : V} (r : VR K as H d v) : ∀ {ds : List D} {vs : List V} (i : Nat), VRs K as H ds vs → VRs K as H (ds.set i d) (vs.set i v)
  | _, _, _, .nil => .nil
  | _, _, 0, .cons _ t => .cons r t
  | _, _, i + 1, .cons q t => .cons q (VRs.set r i t)
theorem VRs.append : ∀ {ds es : List D} {vs ws : List V}, VRs K as H ds vs → VRs K as H es ws → VRs K as H (ds ++ es) (vs ++ ws)
  | _, _, _, _, .nil, s => s
  | _, _, _, _, .cons r t, s => .cons r (VRs.append t s)
theorem VRs.take : ∀ {ds : List D} {vs : List V} (n : Nat), VRs K as H ds vs → VRs K as H (ds.take n) (vs.take n)
  | _, _, 0, _ => .nil
  | _, _, _ + 1, .nil => .nil
  | _, _, n + 1, .cons r t => .cons r (VRs.take n t)
theorem VRs.drop : ∀ {ds : List D} {vs : List V} (n : Nat), VRs K as H ds vs → VRs K as H (ds.drop n) (vs.drop n)
  | _, _, 0, r => r
  | _, _, _ + 1, .nil => .nil
  | _, _, n + 1, .cons _ t => VRs.drop n t
theorem VRs.dropLast {ds : List D} {vs : List V} (h : VRs K as H ds vs) : VRs K as H ds.dropLast vs.dropLast := by
  rw [List.dropLast_eq_take, List.dropLast_eq_take, h.length]
  exact h.take _
theorem VRs.isEmpty {ds : List D} {vs : List V} (h : VRs K as H ds vs) : ds.isEmpty = vs.isEmpty := by
  cases h <;> rfl
theorem VRs.ints : ∀ (ns : List Int), VRs K as H (ns.map D.int) (ns.map V.int)
  | [] => .nil
  | n :: r => .cons (.int n) (VRs.ints r)
end
abbrev Cad := Nat → Addr
def ObR (K : PySem.W.Frag) (cad : Cad) (as : List Addr) (H : Hp) (a : Addr) : Ob → Prop
  | .lst ds => ∃ xs, H a = some (.lst xs) ∧ VRs K as H ds xs
  | .fz ds => ∃ xs, ((∃ o, H a = some (.frz o (.lst xs))) ∨ ∀ H', SqL K H' a xs) ∧ VRs K as H ds xs
  | .dic kvs => ∃ xs, H a = some (.dK xs) ∧ Paired (fun (p : Key × D) (q : Key × V) => p.1 = q.1 ∧ VR K as H p.2 q.2) kvs xs
  | .fd kvs => ∃ o xs, H a = some (.frz o (.dK xs)) ∧ Paired (fun (p : Key × D) (q : Key × V) => p.1 = q.1 ∧ VR K as H p.2 q.2) kvs xs
  | .ft ds => ∃ od xs, H a = some (.frz od (.tup xs)) ∧ od.dict = none ∧ VRs K as H ds xs
  | .ins c fs => ∃ dx xs, H a = some (.ins (cad c) dx xs) ∧ Paired (fun (p : Str × D) (q : Str × V) => p.1 = q.1 ∧ VR K as H p.2 q.2) fs xs
def Ob.own : Ob → Bool
  | .fz _ => false
  | .fd _ => false
  | .ft _ => false
  | _ => true
def Ob.trk : Ob → Bool
  | .fz _ => false
  | .ft _ => false
  | _ => true
theorem own_trk : ∀ {o : Ob}, o.own = true → o.trk = true
  | .lst _, _ => rfl
  | .dic _, _ => rfl
  | .ins _ _, _ => rfl
structure Rel (K : PySem.W.Frag) (cad : Cad) (as : List Addr) (st : Sto) (H : Hp) : Prop where
  len : as.length = st.length
  inj : ∀ (i j : Nat) (a : Addr) (o u : Ob), as[i]? = some a → as[j]? = some a → st[i]? = some o → st[j]? = some u → o.trk = true → u.trk = true → i = j
  ob : ∀ (n : Nat) (o : Ob) (a : Addr), st[n]? = some o → as[n]? = some a → ObR K cad as H a o
section
variable {K : PySem.W.Frag} {cad : Cad} {as as' : List Addr} {st : Sto} {H H' : Hp} {a p : Addr} {o : Ob} {n : Nat}
theorem Paired.map2 {α β : Type} {F G : α → β → Prop} (f : ∀ a b, F a b → G a b) : ∀ {l₁ : List α} {l₂ : List β}, Paired F l₁ l₂ → Paired G l₁ l₂
  | _, _, .nil => .nil
  | _, _, .cons r t => .cons (f _ _ r) (Paired.map2 f t)
theorem ObR.mono (x : Ext K as H as' H') (h : ObR K cad as H a o) (e : o.own = true → H' a = H a) (f : ∀ o u, H a = some (.frz o u) → H' a = some (.frz o u)) : ObR K cad as' H' a o := by
  cases o with
  | lst ds =>
    obtain ⟨xs, q, r⟩ := h
    exact ⟨xs, (e rfl).trans q, r.mono x⟩
  | fz ds =>
    obtain ⟨xs, q, r⟩ := h
    refine ⟨xs, ?_, r.mono x⟩
    rcases q with ⟨u, q⟩ | q
    · exact .inl ⟨u, f u _ q⟩
    · exact .inr q
  | dic kvs =>
    obtain ⟨xs, q, r⟩ := h
    exact ⟨xs, (e rfl).trans q, Paired.map2 (fun _ _ z => ⟨z.1, z.2.mono x⟩) r⟩
  | fd kvs =>
    obtain ⟨o, xs, q, r⟩ := h
    exact ⟨o, xs, f o _ q, Paired.map2 (fun _ _ z => ⟨z.1, z.2.mono x⟩) r⟩
  | ft ds =>
    obtain ⟨o, xs, q, d, r⟩ := h
    exact ⟨o, xs, f o _ q, d, r.mono x⟩
  | ins c fs =>
    obtain ⟨dx, xs, q, r⟩ := h
    exact ⟨dx, xs, (e rfl).trans q, Paired.map2 (fun _ _ z => ⟨z.1, z.2.mono x⟩) r⟩
theorem ObR.there (h : ObR K cad as H a o) (w : o.own = true) : ∃ u, H a = some u ∧ (∀ xs, u ≠ .tup xs) ∧ ∀ ob x, u ≠ .frz ob x := by
  cases o with
  | lst ds =>
    obtain ⟨xs, q, _⟩ := h
    exact ⟨_, q, (fun _ z => by cases z), (fun _ _ z => by cases z)⟩
  | fz ds => cases w
  | dic kvs =>
    obtain ⟨xs, q, _⟩ := h
    exact ⟨_, q, (fun _ z => by cases z), (fun _ _ z => by cases z)⟩
  | fd kvs => cases w
  | ft ds => cases w
  | ins c fs =>
    obtain ⟨dx, xs, q, _⟩ := h
    exact ⟨_, q, (fun _ z => by cases z), (fun _ _ z => by cases z)⟩
theorem ObR.some_of (h : ObR K cad as H a o) (w : o.trk = true) : ∃ u, H a = some u := by
  cases o with
  | lst ds =>
    obtain ⟨xs, q, _⟩ := h
    exact ⟨_, q⟩
  | fz ds => cases w
  | dic kvs =>
    obtain ⟨xs, q, _⟩ := h
    exact ⟨_, q⟩
  | fd kvs =>
    obtain ⟨o, xs, q, _⟩ := h
    exact ⟨_, q⟩
  | ft ds => cases w
  | ins c fs =>
    obtain ⟨dx, xs, q, _⟩ := h
    exact ⟨_, q⟩
theorem sqT_fresh {u : HO} {xs : List V} (hp : H p = none) (h : SqT K H a xs) : SqT K (upd H p u) a xs := by
  rcases h with (h | ⟨ob, h⟩) | h
  · exact .inl (.inl (by rw [upd_ne (ne_of_none h hp)]; exact h))
  · exact .inl (.inr ⟨ob, by rw [upd_ne (ne_of_none h hp)]; exact h⟩)
  · exact .inr h
theorem sqT_write {u w : HO} {xs : List V} (hp : H p = some w) (h1 : ∀ xs, w ≠ .tup xs) (h2 : ∀ ob x, w ≠ .frz ob x) (h : SqT K H a xs) : SqT K (upd H p u) a xs := by
  rcases h with (h | ⟨ob, h⟩) | h
  · exact .inl (.inl (by rw [upd_ne (ne_of h hp (fun z => h1 xs z.symm))]; exact h))
  · exact .inl (.inr ⟨ob, by rw [upd_ne (ne_of h hp (fun z => h2 _ _ z.symm))]; exact h⟩)
  · exact .inr h
theorem frz_fresh {u : HO} {o : Obj} {z : HO} (hp : H p = none) (h : H a = some (.frz o z)) : upd H p u a = some (.frz o z) := by rw [upd_ne (ne_of_none h hp)]; exact h
theorem frz_write {u w : HO} {o : Obj} {z : HO} (hp : H p = some w) (h2 : ∀ ob x, w ≠ .frz ob x) (h : H a = some (.frz o z)) : upd H p u a = some (.frz o z) := by rw [upd_ne (ne_of h hp (fun z => h2 _ _ z.symm))]; exact h
theorem Ext.fresh {u : HO} (hp : H p = none) : Ext K as H as (upd H p u) := ⟨⟨[], by simp⟩, fun _ _ h => sqT_fresh hp h, fun _ _ _ h => frz_fresh hp h⟩
theorem Ext.fresh1 {u : HO} (hp : H p = none) : Ext K as H (as ++ [p]) (upd H p u) := ⟨⟨[p], rfl⟩, fun _ _ h => sqT_fresh hp h, fun _ _ _ h => frz_fresh hp h⟩
theorem ObR.fresh {u : HO} (x : Ext K as H as' (upd H p u)) (hp : H p = none) (h : ObR K cad as H a o) : ObR K cad as' (upd H p u) a o := by
  refine h.mono x (fun w => ?_) (fun ob xs q => ?_)
  · obtain ⟨v, q, _⟩ := h.there w
    rw [upd_ne (ne_of_none q hp)]
  · rw [upd_ne (ne_of_none q hp)]
    exact q
theorem Rel.fresh {u : HO} (R : Rel K cad as st H) (hp : H p = none) : Rel K cad as st (upd H p u) :=
  ⟨R.len, R.inj, fun n o a h1 h2 => (R.ob n o a h1 h2).fresh (Ext.fresh hp) hp⟩
theorem Rel.new {u : HO} (R : Rel K cad as st H) (hp : H p = none) (h : ObR K cad (as ++ [p]) (upd H p u) p o) : Rel K cad (as ++ [p]) (st ++ [o]) (upd H p u) := by
  have old : ∀ (i : Nat) (b : Addr), (as ++ [p])[i]? = some b → (as[i]? = some b ∧ i < as.length) ∨ (i = as.length ∧ b = p) := fun i b h => by
    by_cases hi : i < as.length
    · rw [List.getElem?_append_left hi] at h
      exact .inl ⟨h, hi⟩
    · by_cases he : i = as.length
      · subst he
        simp at h
        exact .inr ⟨rfl, h.symm⟩
      · rw [List.getElem?_eq_none (by simp; omega)] at h
        cases h
  have tn : ∀ (i : Nat) (w : Ob), i < as.length → (st ++ [o])[i]? = some w → st[i]? = some w := fun i w hi h => by
    rw [List.getElem?_append_left (by rw [← R.len]; exact hi)] at h
    exact h
  have nop : ∀ (i : Nat) (w : Ob), as[i]? = some p → st[i]? = some w → w.trk = true → False := fun i w h1 h2 h3 => by
    obtain ⟨v, q⟩ := (R.ob i w p h2 h1).some_of h3
    rw [hp] at q
    cases q
  refine ⟨by simp [R.len], fun i j b w z h1 h2 h3 h4 h5 h6 => ?_, fun n w b h1 h2 => ?_⟩
  · rcases old i b h1 with ⟨a1, l1⟩ | ⟨rfl, rfl⟩
    · rcases old j b h2 with ⟨a2, l2⟩ | ⟨rfl, rfl⟩
      · exact R.inj i j b w z a1 a2 (tn i w l1 h3) (tn j z l2 h4) h5 h6
      · exact (nop i w a1 (tn i w l1 h3) h5).elim
    · rcases old j b h2 with ⟨a2, l2⟩ | ⟨rfl, _⟩
      · exact (nop j z a2 (tn j z l2 h4) h6).elim
      · rfl
  · rcases old n b h2 with ⟨a2, l2⟩ | ⟨rfl, rfl⟩
    · exact (R.ob n w b (tn n w l2 h1) a2).fresh (Ext.fresh1 hp) hp
    · rw [R.len] at h1
      simp at h1
      subst h1
      exact h
theorem Rel.write {u : HO} {o' : Ob} (R : Rel K cad as st H) (hn : st[n]? = some o) (ha : as[n]? = some a) (w : o.own = true) (w' : o'.own = true) (h : ObR K cad as (upd H a u) a o') :
    Rel K cad as (st.set n o') (upd H a u) ∧ Ext K as H as (upd H a u) := by
  obtain ⟨v, q, q1, q2⟩ := (R.ob n o a hn ha).there w
  have x : Ext K as H as (upd H a u) := ⟨⟨[], by simp⟩, fun b xs h => sqT_write q q1 q2 h, fun _ _ _ h => frz_write q q2 h⟩
  have ln : n < st.length := (List.getElem?_eq_some_iff.mp hn).1
  refine ⟨⟨by simp [R.len], fun i j b z t h1 h2 h3 h4 h5 h6 => ?_, fun m z b h1 h2 => ?_⟩, x⟩
  · have g : ∀ (k : Nat) (z : Ob), (st.set n o')[k]? = some z → z.trk = true → ∃ z', st[k]? = some z' ∧ z'.trk = true := fun k z h1 h2 => by
      by_cases hk : k = n
      · subst hk
        exact ⟨o, hn, own_trk w⟩
      · rw [List.getElem?_set_ne (Ne.symm hk)] at h1
        exact ⟨z, h1, h2⟩
    obtain ⟨z', e1, e2⟩ := g i z h3 h5
    obtain ⟨t', e3, e4⟩ := g j t h4 h6
    exact R.inj i j b z' t' h1 h2 e1 e3 e2 e4
  · by_cases hm : m = n
    · subst hm
      rw [List.getElem?_set_self ln] at h1
      cases h1
      rw [ha] at h2
      cases h2
      exact h
    · rw [List.getElem?_set_ne (Ne.symm hm)] at h1
      refine (R.ob m z b h1 h2).mono x (fun wz => ?_) (fun ob xs q' => ?_)
      · have nb : b ≠ a := fun e => by
          subst e
          exact hm (R.inj m n b z o h2 ha h1 hn (own_trk wz) (own_trk w))
        rw [upd_ne nb]
      · rw [upd_ne (ne_of q' q (fun e => q2 _ _ e.symm))]
        exact q'
theorem Rel.at (R : Rel K cad as st H) (h : st[n]? = some o) : ∃ a, as[n]? = some a := by
  have l : n < as.length := by
    rw [R.len]
    exact (List.getElem?_eq_some_iff.mp h).1
  exact ⟨as[n], List.getElem?_eq_getElem l⟩
theorem Rel.at' (R : Rel K cad as st H) (h : as[n]? = some a) : ∃ o, st[n]? = some o := by
  have l : n < st.length := by
    rw [← R.len]
    exact (List.getElem?_eq_some_iff.mp h).1
  exact ⟨st[n], List.getElem?_eq_getElem l⟩
end
abbrev Rho := List (Option D)
abbrev ME := Rho → Sto → Option (D × Sto)
abbrev MA := Rho → Sto → Option (List D × Sto)
abbrev MT := Rho → Sto → Option (Bool × Sto)
def ER (K : PySem.W.Frag) (as : List Addr) (H : Hp) (ρ : Rho) (σ : L2.St) : Prop := ρ.length = σ.length ∧ ∀ (i : Nat) (d : D), ρ[i]? = some (some d) → ∃ v, σ[i]? = some (some v) ∧ VR K as H d v
def Post (K : PySem.W.Frag) (cad : Cad) (as : List Addr) (H : Hp) (st' : Sto) (d : D) (Q : VK) : Prop :=
  ∀ (as' : List Addr) (H' : Hp) (v : V), Ext K as H as' H' → Rel K cad as' st' H' → VR K as' H' d v → Q v H'
def PostA (K : PySem.W.Frag) (cad : Cad) (as : List Addr) (H : Hp) (st' : Sto) (ds : List D) (Q : List V → Hp → Prop) : Prop :=
  ∀ (as' : List Addr) (H' : Hp) (vs : List V), Ext K as H as' H' → Rel K cad as' st' H' → VRs K as' H' ds vs → Q vs H'
def PostT (K : PySem.W.Frag) (cad : Cad) (as : List Addr) (H : Hp) (st' : Sto) (b : Bool) (Q : Bool → Hp → Prop) : Prop :=
  ∀ (as' : List Addr) (H' : Hp), Ext K as H as' H' → Rel K cad as' st' H' → Q b H'
def tI (K : PySem.W.Frag) (cad : Cad) (f : ME) : TE := fun σ H Q => ∃ as st ρ d st', Rel K cad as st H ∧ ER K as H ρ σ ∧ f ρ st = some (d, st') ∧ Post K cad as H st' d Q
def tIA (K : PySem.W.Frag) (cad : Cad) (f : MA) : TA := fun σ H Q => ∃ as st ρ ds st', Rel K cad as st H ∧ ER K as H ρ σ ∧ f ρ st = some (ds, st') ∧ PostA K cad as H st' ds Q
def tIT (K : PySem.W.Frag) (cad : Cad) (f : MT) : TT := fun σ H Q => ∃ as st ρ b st', Rel K cad as st H ∧ ER K as H ρ σ ∧ f ρ st = some (b, st') ∧ PostT K cad as H st' b Q
def IE (X : Cx) (cad : Cad) (e : Expr) (f : ME) : Prop := PE X e (tI X.K cad f)
def IA (X : Cx) (cad : Cad) (es : List Expr) (f : MA) : Prop := PA X es (tIA X.K cad f)
def IT (X : Cx) (cad : Cad) (e : Expr) (f : MT) : Prop := PT X e (tIT X.K cad f)

section
variable {X : Cx} {e : Expr} {es : List Expr}
theorem pe_weak {t t' : TE} (h : PE X e t) (w : ∀ σ H Q, t' σ H Q → t σ H Q) : PE X e t' := ⟨fun pins s σ H Q I q => h.run pins s σ H Q I (w σ H Q q)⟩
theorem pa_weak {t t' : TA} (h : PA X es t) (w : ∀ σ H Q, t' σ H Q → t σ H Q) : PA X es t' := ⟨fun pos pins s σ H Q I q => h.run pos pins s σ H Q I (w σ H Q q)⟩
theorem pt_weak {t t' : TT} (h : PT X e t) (w : ∀ σ H Q, t' σ H Q → t σ H Q) : PT X e t' := ⟨fun pins s σ H Q I q => h.run pins s σ H Q I (w σ H Q q)⟩
theorem pw_weak {t t' : TT} (h : PW X e t) (w : ∀ σ H Q, t' σ H Q → t σ H Q) : PW X e t' := ⟨fun wh pins s σ H Q I q => h.run wh pins s σ H Q I (w σ H Q q)⟩
end
section
variable {K : PySem.W.Frag} {cad : Cad} {as as' : List Addr} {st : Sto} {H H' : Hp} {ρ : Rho} {σ : L2.St} {d : D} {v : V}
theorem ER.mono (x : Ext K as H as' H') (h : ER K as H ρ σ) : ER K as' H' ρ σ := ⟨h.1, fun i d e => by
  obtain ⟨v, e1, r⟩ := h.2 i d e
  exact ⟨v, e1, r.mono x⟩⟩
theorem ER.set {i : Nat} (h : ER K as H ρ σ) (r : VR K as H d v) : ER K as H (ρ.set i (some d)) (σ.set i (some v)) := by
  refine ⟨by simp [h.1], fun j d' e => ?_⟩
  by_cases hj : j = i
  · subst hj
    by_cases hl : j < ρ.length
    · rw [List.getElem?_set_self hl] at e
      cases e
      exact ⟨v, List.getElem?_set_self (by rw [← h.1]; exact hl), r⟩
    · rw [List.getElem?_eq_none (by simpa using hl)] at e
      cases e
  · rw [List.getElem?_set_ne (Ne.symm hj)] at e
    obtain ⟨v', e1, r'⟩ := h.2 j d' e
    exact ⟨v', by rw [List.getElem?_set_ne (Ne.symm hj)]; exact e1, r'⟩
end
end MP

set_option maxRecDepth 100000
namespace MP
open PySem PySem.Spec PyProof.Rows L2
def LIM : Nat := 16000000
theorem lim_ok {n : Nat} (h : n ≤ LIM) : n ≤ sizeLine := by
  rw [sizeLine_eq]
  unfold LIM at h
  omega
theorem lim_lt {n : Nat} (h : n < LIM) : n < sizeLine := by
  rw [sizeLine_eq]
  unfold LIM at h
  omega

section
variable {K : PySem.W.Frag} {cad : Cad} {as : List Addr} {st st' : Sto} {H : Hp} {d : D} {Q : VK}
theorem Post.now (P : Post K cad as H st d Q) (R : Rel K cad as st H) {v : V} (r : VR K as H d v) : Q v H := P as H v .refl R r
theorem Post.ext {as1 : List Addr} {H1 : Hp} (P : Post K cad as H st' d Q) (x : Ext K as H as1 H1) : Post K cad as1 H1 st' d Q := fun as' H' v y R r => P as' H' v (x.trans y) R r
theorem PostA.ext {as1 : List Addr} {H1 : Hp} {ds : List D} {Q : List V → Hp → Prop} (P : PostA K cad as H st' ds Q) (x : Ext K as H as1 H1) : PostA K cad as1 H1 st' ds Q := fun as' H' v y R r => P as' H' v (x.trans y) R r
theorem PostT.ext {as1 : List Addr} {H1 : Hp} {b : Bool} {Q : Bool → Hp → Prop} (P : PostT K cad as H st' b Q) (x : Ext K as H as1 H1) : PostT K cad as1 H1 st' b Q := fun as' H' y R => P as' H' (x.trans y) R
theorem Post.tup {ds : List D} {xs : List V} {p : Addr} (P : Post K cad as H st (.tup ds) Q) (R : Rel K cad as st H) (r : VRs K as H ds xs) (hp : H p = none) : Q (.ref p) (upd H p (.tup xs)) :=
  P as _ _ (Ext.fresh hp) (R.fresh hp) (.tup (.inl (.inl upd_same)) (r.mono (Ext.fresh hp)))
theorem Post.lst {ds : List D} {xs : List V} {p : Addr} (P : Post K cad as H (st ++ [.lst ds]) (.ref st.length) Q) (R : Rel K cad as st H) (r : VRs K as H ds xs) (hp : H p = none) : Q (.ref p) (upd H p (.lst xs)) :=
  P _ _ _ (Ext.fresh1 hp) (R.new hp ⟨xs, upd_same, r.mono (Ext.fresh1 hp)⟩) (.ref (by rw [← R.len]; simp))
theorem Post.dic {p : Addr} (P : Post K cad as H (st ++ [.dic []]) (.ref st.length) Q) (R : Rel K cad as st H) (hp : H p = none) : Q (.ref p) (upd H p (.dK [])) :=
  P _ _ _ (Ext.fresh1 hp) (R.new hp ⟨[], upd_same, .nil⟩) (.ref (by rw [← R.len]; simp))
def rdL (st : Sto) (n : Nat) : Option (List D) := match st[n]? with
  | some (.lst ds) => some ds
  | some (.fz ds) => some ds
  | _ => none
theorem Rel.rdL {n : Nat} {a : Addr} {ds : List D} (R : Rel K cad as st H) (h : rdL st n = some ds) (ha : as[n]? = some a) : ∃ xs, SqL K H a xs ∧ VRs K as H ds xs := by
  unfold MP.rdL at h
  split at h
  · rename_i es e
    cases h
    obtain ⟨xs, q, r⟩ := R.ob n _ a e ha
    exact ⟨xs, .of q, r⟩
  · rename_i es e
    cases h
    obtain ⟨xs, q, r⟩ := R.ob n _ a e ha
    rcases q with ⟨o, q⟩ | q
    · exact ⟨xs, .inl (.inr ⟨o, q⟩), r⟩
    · exact ⟨xs, q H, r⟩
  · cases h
def myL (st : Sto) (n : Nat) : Option (List D) := match st[n]? with
  | some (.lst ds) => some ds
  | _ => none
theorem myL_at {n : Nat} {ds : List D} (h : myL st n = some ds) : st[n]? = some (.lst ds) := by
  unfold MP.myL at h
  split at h
  · rename_i es e
    cases h
    exact e
  · cases h
theorem Rel.myL {n : Nat} {a : Addr} {ds : List D} (R : Rel K cad as st H) (h : myL st n = some ds) (ha : as[n]? = some a) : ∃ xs, H a = some (.lst xs) ∧ VRs K as H ds xs := R.ob n _ a (myL_at h) ha
end
def eVar (i : Nat) : ME := fun ρ st => match ρ[i]? with
  | some (some d) => some (d, st)
  | _ => none
def eC (d : D) : ME := fun _ st => some (d, st)
section
variable {X : Cx} {cad : Cad} {e a b c : Expr} {f g h : ME} {pos : Pos}
theorem ie_var {i : Nat} (h : PE X e (tVar i)) : IE X cad e (eVar i) := by
  refine pe_weak h fun σ H Q => ?_
  rintro ⟨as, st, ρ, d, st', R, E, q, P⟩
  unfold eVar at q
  split at q
  · rename_i d' e'
    cases q
    obtain ⟨v, e1, r⟩ := E.2 i _ e'
    exact ⟨v, e1, P.now R r⟩
  · cases q
theorem ie_c {d : D} {v : V} (h : PE X e (tC v)) (r : ∀ as H, VR X.K as H d v) : IE X cad e (eC d) := by
  refine pe_weak h fun σ H Q => ?_
  rintro ⟨as, st, ρ, d', st', R, E, q, P⟩
  cases q
  exact P.now R (r as H)
theorem ie_int {i : Int} {j} : IE X cad (.Constant (.int i) j pos) (eC (.int i)) := ie_c pe_int fun _ _ => .int i
theorem ie_bl {i : Bool} {j} : IE X cad (.Constant (.bool i) j pos) (eC (.bl i)) := ie_c pe_bl fun _ _ => .bl i
theorem ie_non {j} : IE X cad (.Constant .none j pos) (eC .non) := ie_c pe_non fun _ _ => .non
theorem ie_str {x : Str} {l : List Nat} {j} (hx : x.cps.toList = l ∧ okS l = true) : IE X cad (.Constant (.str x) j pos) (eC (.str l)) := ie_c pe_str fun as H => by
  obtain ⟨hx, ho⟩ := hx
  subst hx
  have := VR.str (K := X.K) (as := as) (H := H) ho
  rw [mkS_of] at this
  exact this
theorem ie_gint {x : Str} {i : Int} {t : Tok} (hg : Gl X x) (hm : X.mg x = some (.int i t)) (hd : (x == ("__debug__" : Str)) = false := by decide) : IE X cad (.Name x pos) (eC (.int i)) := ie_c (pe_glob (v := .int i) hg hm ⟨t, rfl⟩ hd) fun _ _ => .int i
theorem ie_gstr {x z : Str} {l : List Nat} {t : Tok} (hg : Gl X x) (hm : X.mg x = some (.str z t)) (hx : z.cps.toList = l ∧ okS l = true) (hd : (x == ("__debug__" : Str)) = false := by decide) : IE X cad (.Name x pos) (eC (.str l)) := ie_c (pe_glob (v := .str z) hg hm ⟨t, rfl⟩ hd) fun as H => by
  obtain ⟨hx, ho⟩ := hx
  subst hx
  have := VR.str (K := X.K) (as := as) (H := H) ho
  rw [mkS_of] at this
  exact this
end
abbrev O2 := D → D → Sto → Option (D × Sto)
def OpD (K : PySem.W.Frag) (cad : Cad) (r : R2) (o : O2) : Prop :=
  ∀ (as : List Addr) (st : Sto) (H : Hp) (x y : D) (v w : V) (d : D) (st' : Sto) (Q : VK), Rel K cad as st H → VR K as H x v → VR K as H y w → o x y st = some (d, st') → Post K cad as H st' d Q → r v w H Q
def eBin (o : O2) (f g : ME) : ME := fun ρ st => (f ρ st).bind fun p => (g ρ p.2).bind fun q => o p.1 q.1 q.2
theorem bind_some {α β : Type} {o : Option α} {k : α → Option β} {b : β} (h : o.bind k = some b) : ∃ a, o = some a ∧ k a = some b := by
  cases o with
  | none => cases h
  | some a => exact ⟨a, rfl, h⟩
section
variable {X : Cx} {cad : Cad} {e a b c : Expr} {f g h : ME} {pos : Pos}
theorem tI_run {K : PySem.W.Frag} {cad : Cad} {as : List Addr} {st st' : Sto} {H : Hp} {ρ : Rho} {σ : L2.St} {f : ME} {d : D} {Q : VK} (R : Rel K cad as st H) (E : ER K as H ρ σ) (e : f ρ st = some (d, st'))
    (P : ∀ as' H' v, Ext K as H as' H' → Rel K cad as' st' H' → ER K as' H' ρ σ → VR K as' H' d v → Q v H') : tI K cad f σ H Q :=
  ⟨as, st, ρ, d, st', R, E, e, fun as' H' v x R' r => P as' H' v x R' (E.mono x) r⟩
theorem tI_op {r : R2} {o : O2} {K : PySem.W.Frag} (hr : OpD K cad r o) {σ : L2.St} {H : Hp} {Q : VK} (hw : tI K cad (eBin o f g) σ H Q) : tOp r (tI K cad f) (tI K cad g) σ H Q := by
  obtain ⟨as, st, ρ, d, st', R, E, q, P⟩ := hw
  obtain ⟨⟨x, st1⟩, e1, q⟩ := bind_some q
  obtain ⟨⟨y, st2⟩, e2, q⟩ := bind_some q
  exact tI_run R E e1 fun as1 H1 v x1 R1 E1 r1 => tI_run R1 E1 e2 fun as2 H2 w x2 R2 E2 r2 => hr as2 st2 H2 x y v w d st' Q R2 (r1.mono x2) r2 q (P.ext (x1.trans x2))
theorem ie_bin {op : Operator} {r : R2} {o : O2} (ho : OpR X (binaryOp op) r) (hd : OpD X.K cad r o) (ha : IE X cad a f) (hb : IE X cad b g) : IE X cad (.BinOp a op b pos) (eBin o f g) :=
  pe_weak (pe_op ho ha hb) fun _ _ _ => tI_op hd
theorem OpD.or1 {K : PySem.W.Frag} {r r' : R2} {o : O2} (h : OpD K cad r o) : OpD K cad (fun x y H Q => r x y H Q ∨ r' x y H Q) o := fun as st H x y v w d st' Q R r1 r2 e P => .inl (h as st H x y v w d st' Q R r1 r2 e P)
theorem OpD.or2 {K : PySem.W.Frag} {r r' : R2} {o : O2} (h : OpD K cad r' o) : OpD K cad (fun x y H Q => r x y H Q ∨ r' x y H Q) o := fun as st H x y v w d st' Q R r1 r2 e P => .inr (h as st H x y v w d st' Q R r1 r2 e P)
def opAdd : O2 := fun x y st => match x, y with
  | .int i, .int j => some (.int (i + j), st)
  | .int i, .bl k => some (.int (i + b2i k), st)
  | .str l, .str m => if l.length + m.length ≤ LIM then some (.str (l ++ m), st) else none
  | .tup l, .tup m => if l ≠ [] ∧ l.length + m.length ≤ LIM then some (.tup (l ++ m), st) else none
  | .ref k, .ref n => match myL st k, myL st n with
    | some l, some m => if l.length + m.length ≤ LIM then some (.ref st.length, st ++ [.lst (l ++ m)]) else none
    | _, _ => none
  | _, _ => none
def rAddA (K : PySem.W.Frag) : R2 := fun x y H Q => (∃ i j, x = .int i ∧ y = .int j ∧ Q (.int (i + j)) H) ∨ (∃ i k, x = .int i ∧ y = .bl k ∧ Q (.int (i + b2i k)) H) ∨
  (∃ i j, x = .str i ∧ y = .str j ∧ i.length + j.length ≤ sizeLine ∧ Q (.str (i ++ j)) H) ∨ rCatT K x y H Q ∨ rCat x y H Q
theorem op_addA : OpR X (binaryOp .Add) (rAddA X.K) := op_add.or (op_add_ib.or (op_add_str.or (op_catT.or op_cat)))
theorem mkS_app (l m : List Nat) : mkS l ++ mkS m = mkS (l ++ m) := by
  rw [← mkS_of (mkS l ++ mkS m)]
  congr 1
  exact TL.tl_append _ _
theorem od_add {K : PySem.W.Frag} : OpD K cad (rAddA K) opAdd := by
  intro as st H x y v w d st' Q R r1 r2 e P
  cases r1 with
  | non => cases r2 <;> cases e
  | bl b => cases r2 <;> cases e
  | int i =>
    cases r2 with
    | int j => cases e; exact .inl ⟨i, j, rfl, rfl, P.now R (.int _)⟩
    | bl k => cases e; exact .inr (.inl ⟨i, k, rfl, rfl, P.now R (.int _)⟩)
    | _ => cases e
  | @str l hl1 =>
    cases r2 with
    | @str m hl2 =>
      simp only [opAdd] at e
      split at e
      · cases e
        rename_i hl
        refine .inr (.inr (.inl ⟨_, _, rfl, rfl, ?_, ?_⟩))
        · rw [mkS_len, mkS_len]
          exact lim_ok hl
        · rw [mkS_app]
          exact P.now R (.str (okS_app hl1 hl2))
      · cases e
    | _ => cases e
  | @tup a xs ds hs rs =>
    cases r2 with
    | @tup b ys es hs2 rs2 =>
      simp only [opAdd] at e
      split at e
      · cases e
        rename_i hl
        refine .inr (.inr (.inr (.inl ⟨a, b, xs, ys, rfl, rfl, hs, hs2, ?_, ?_, fun hy => ?_, fun _ p hp => ?_⟩)))
        · intro z
          subst z
          cases rs
          exact hl.1 rfl
        · rw [← rs.length, ← rs2.length]
          exact lim_ok hl.2
        · subst hy
          cases rs2
          rw [List.append_nil] at P
          exact P.now R (.tup hs rs)
        · exact P.tup R (rs.append rs2) hp
      · cases e
    | _ => cases e
  | @ref n a ha =>
    cases r2 with
    | @ref m b hb =>
      simp only [opAdd] at e
      split at e
      · rename_i l l' e1 e2
        split at e
        · cases e
          rename_i hl
          obtain ⟨xs, q1, r1⟩ := R.myL e1 ha
          obtain ⟨ys, q2, r2⟩ := R.myL e2 hb
          refine .inr (.inr (.inr (.inr ⟨a, b, xs, ys, rfl, rfl, q1, q2, ?_, fun p hp => ?_⟩)))
          · rw [← r1.length, ← r2.length]
            exact lim_ok hl
          · exact P.lst R (r1.append r2) hp
        · cases e
      · cases e
    | _ => cases e
theorem ie_add (ha : IE X cad a f) (hb : IE X cad b g) : IE X cad (.BinOp a .Add b pos) (eBin opAdd f g) := ie_bin op_addA od_add ha hb
def opI (C : Int → Int → Bool) (G : Int → Int → Int) : O2 := fun x y st => match x, y with
  | .int i, .int j => if C i j then some (.int (G i j), st) else none
  | _, _ => none
theorem od_I {K : PySem.W.Frag} {C : Int → Int → Bool} {C' : Int → Int → Prop} {G : Int → Int → Int} (h : ∀ i j, C i j = true → C' i j) : OpD K cad (rI C' fun i j => .int (G i j)) (opI C G) := by
  intro as st H x y v w d st' Q R r1 r2 e P
  cases r1 with
  | int i =>
    cases r2 with
    | int j =>
      simp only [opI] at e
      split at e
      · cases e
        rename_i hc
        exact ⟨i, j, rfl, rfl, h i j hc, P.now R (.int _)⟩
      · cases e
    | _ => cases e
  | _ => cases r2 <;> cases e
theorem rI0_I {f : Value → Value → Sem Value} {G : Int → Int → V} (h : OpR X f (rI0 G)) : OpR X f (rI (fun _ _ => True) G) := fun pins s σ H x y v u Q I rx ry ⟨i, j, e1, e2, _, q⟩ => h pins s σ H x y v u Q I rx ry ⟨i, j, e1, e2, q⟩
def cT : Int → Int → Bool := fun _ _ => true
def opSub : O2 := opI cT fun i j => i - j
theorem ie_sub (ha : IE X cad a f) (hb : IE X cad b g) : IE X cad (.BinOp a .Sub b pos) (eBin opSub f g) := ie_bin (rI0_I op_sub) (od_I fun _ _ _ => True.intro) ha hb
def cDiv (_ j : Int) : Bool := decide (j ≠ 0 ∧ j.natAbs.log2 < 9000)
def gDiv (i j : Int) : Int := if 0 < j then i / j else i.fdiv j
def gMod (i j : Int) : Int := if 0 < j then i % j else i.fmod j
theorem gDiv_eq (i j : Int) : gDiv i j = i.fdiv j := by
  unfold gDiv
  split
  · rw [Int.fdiv_eq_ediv_of_nonneg i (by omega)]
  · rfl
theorem gMod_eq (i j : Int) : gMod i j = i.fmod j := by
  unfold gMod
  split
  · rw [Int.fmod_eq_emod_of_nonneg i (by omega)]
  · rfl
theorem op_divA : OpR X (binaryOp .FloorDiv) (rI (fun i j => cDiv i j = true) fun i j => .int (gDiv i j)) := L2.opI fun i j _ _ _ _ _ hc q => by
  have h1 := of_decide_eq_true hc
  rw [gDiv_eq] at q
  exact floordiv_int h1.1 q (.inl (PyProof.noPylong_of_log2 h1.2))
def opDiv : O2 := opI cDiv gDiv
theorem ie_div (ha : IE X cad a f) (hb : IE X cad b g) : IE X cad (.BinOp a .FloorDiv b pos) (eBin opDiv f g) := ie_bin op_divA (od_I fun _ _ h => h) ha hb
def cMod (_ j : Int) : Bool := decide (j ≠ 0)
theorem op_modA : OpR X (binaryOp .Mod) (rI (fun i j => cMod i j = true) fun i j => .int (gMod i j)) := L2.opI fun i j _ _ _ _ _ hc q => by
  have h1 : j ≠ 0 := of_decide_eq_true hc
  rw [gMod_eq] at q
  exact mod_int' h1 q
def opMod : O2 := opI cMod gMod
theorem ie_mod (ha : IE X cad a f) (hb : IE X cad b g) : IE X cad (.BinOp a .Mod b pos) (eBin opMod f g) := ie_bin op_modA (od_I fun _ _ h => h) ha hb
def cPow (i j : Int) : Bool := decide (0 ≤ j ∧ j ≤ 1000000 ∧ i.natAbs < 2 ^ 64)
def opPow : O2 := opI cPow fun i j => i ^ j.toNat
theorem ie_pow (ha : IE X cad a f) (hb : IE X cad b g) : IE X cad (.BinOp a .Pow b pos) (eBin opPow f g) := ie_bin op_pow (od_I fun _ _ h => by
  have z := of_decide_eq_true h
  exact z) ha hb
def opAnd : O2 := opI cT Builtin.bitAnd
theorem ie_and (ha : IE X cad a f) (hb : IE X cad b g) : IE X cad (.BinOp a .BitAnd b pos) (eBin opAnd f g) := ie_bin (rI0_I op_and) (od_I fun _ _ _ => True.intro) ha hb
def opOr : O2 := opI cT Builtin.bitOr
theorem ie_or (ha : IE X cad a f) (hb : IE X cad b g) : IE X cad (.BinOp a .BitOr b pos) (eBin opOr f g) := ie_bin (rI0_I op_or) (od_I fun _ _ _ => True.intro) ha hb
end
end MP

set_option maxRecDepth 100000
namespace MP
open PySem PySem.Spec PyProof.Rows L2

section
variable {X : Cx} {cad : Cad} {e a b c : Expr} {f g h : ME} {pos : Pos}
def cMul (i j : Int) : Bool := decide (i.natAbs < 2 ^ 64 ∨ j.natAbs < 2 ^ 64 ∨ i.natAbs.log2 + j.natAbs.log2 < 1000000)
theorem cMul_ok {i j : Int} (h : cMul i j = true) : IntMulOk i j := by
  have z := of_decide_eq_true h
  rcases z with z | z | z
  · exact CMul.ok (.inl (by omega))
  · exact CMul.ok (.inr (by omega))
  · exact CMulW.ok z
def repS (l : List Nat) (n : Int) : List Nat := (List.replicate n.toNat l).flatten
theorem foldl_app (l : List Nat) : ∀ (k : Nat) (acc : Array Nat), ((List.replicate k l.toArray).foldl (· ++ ·) acc) = (acc.toList ++ (List.replicate k l).flatten).toArray
  | 0, acc => by simp
  | k + 1, acc => by
    rw [List.replicate_succ, List.foldl_cons, foldl_app l k, List.replicate_succ, List.flatten_cons]
    simp
theorem mul_rep (l : List Nat) (n : Int) : Txt.mul (mkS l) n = mkS (repS l n) := by
  unfold Txt.mul repS
  by_cases h : n < 1
  · rw [if_pos h]
    have : n.toNat = 0 := by omega
    rw [this]
    rfl
  · rw [if_neg h]
    by_cases h1 : (n == 1 || (mkS l).length == 0) = true
    · rw [if_pos h1]
      rw [Bool.or_eq_true] at h1
      rcases h1 with h1 | h1
      · have : n = 1 := by simpa using h1
        subst this
        simp [List.replicate]
      · rw [mkS_len] at h1
        have hl : l = [] := by simpa using h1
        subst hl
        congr 1
        simp
    · rw [if_neg h1]
      show (⟨(List.replicate n.toNat l.toArray).foldl (· ++ ·) #[]⟩ : Str) = _
      rw [foldl_app]
      rfl
def opMul : O2 := fun x y st => match x, y with
  | .int i, .int j => if cMul i j then some (.int (i * j), st) else none
  | .str l, .int n => if -(LIM : Int) ≤ n ∧ n ≤ (LIM : Nat) ∧ l.length * n.toNat ≤ LIM then some (.str (repS l n), st) else none
  | .ref k, .int n => match myL st k with
    | some l => if -(LIM : Int) ≤ n ∧ n ≤ (LIM : Nat) ∧ l.length * n.toNat ≤ LIM then some (.ref st.length, st ++ [.lst (List.replicate n.toNat l).flatten]) else none
    | none => none
  | _, _ => none
def rMulS : R2 := fun x y H Q => ∃ (l : List Nat) (n : Int), x = .str (mkS l) ∧ y = .int n ∧ n ≤ (LIM : Nat) ∧ l.length * n.toNat ≤ LIM ∧ -(LIM : Int) ≤ n ∧ Q (.str (mkS (repS l n))) H
theorem op_mulS : OpR X (binaryOp .Mult) rMulS := by
  intro pins s σ H x y v u Q I rx ry h
  obtain ⟨l, n, rfl, rfl, h1, h2, h3, q⟩ := h
  obtain ⟨t, rfl⟩ := rx
  obtain ⟨t', rfl⟩ := ry
  have hL : LIM = 16000000 := rfl
  rw [hL] at h1 h2 h3
  refine PySem.SB.mul ⟨?_, fun h4 h5 => ?_, fun h4 h5 => ?_⟩ (fun t2 k => ?_)
  · rw [Bool.or_eq_false_iff]
    exact ⟨decide_eq_false (by omega), decide_eq_false (by omega)⟩
  · rw [mkS_len]
    have hp : 0 < n := by omega
    intro z
    have e1 : (2 ^ 63 - 1 : Int) / n < (l.length : Int) := z
    have e2 : (l.length : Int) * n ≤ 16000000 := by
      have : n = (n.toNat : Int) := by omega
      rw [this]
      have h2' : ((l.length * n.toNat : Nat) : Int) ≤ 16000000 := by omega
      simpa using h2'
    have e3 : (2 ^ 63 - 1 : Int) < (l.length : Int) * n := (Int.ediv_lt_iff_lt_mul hp).mp e1
    omega
  · rw [mkS_len]
    unfold Builtin.Str.tooLong
    exact decide_eq_false (by
      have := lim_ok (show l.length * n.toNat ≤ LIM from h2)
      omega)
  · rw [mul_rep]
    exact ⟨.str _, H, I.tok _, ⟨_, rfl⟩, q⟩
theorem okS_rep {l : List Nat} (h : okS l = true) (n : Int) : okS (repS l n) = true := okS_sub h fun c hc => by
  unfold repS at hc
  obtain ⟨m, h1, h2⟩ := List.mem_flatten.mp hc
  rw [List.eq_of_mem_replicate h1] at h2
  exact h2
def rMulA (K : PySem.W.Frag) : R2 := fun x y H Q => (∃ i j, x = .int i ∧ y = .int j ∧ cMul i j = true ∧ Q (.int (i * j)) H) ∨ rMulS x y H Q ∨ rRep x y H Q
theorem op_mulA : OpR X (binaryOp .Mult) (rMulA X.K) := (L2.opI fun _ _ _ _ _ _ _ hc q => mul_int q (cMul_ok hc)).or (op_mulS.or op_rep)
theorem VRs.rep {K : PySem.W.Frag} {as : List Addr} {H : Hp} {ds : List D} {vs : List V} (h : VRs K as H ds vs) : ∀ k : Nat, VRs K as H (List.replicate k ds).flatten (List.replicate k vs).flatten
  | 0 => .nil
  | k + 1 => by
    rw [List.replicate_succ, List.replicate_succ, List.flatten_cons, List.flatten_cons]
    exact h.append (h.rep k)
theorem od_mul {K : PySem.W.Frag} : OpD K cad (rMulA K) opMul := by
  intro as st H x y v w d st' Q R r1 r2 e P
  cases r1 with
  | int i =>
    cases r2 with
    | int j =>
      simp only [opMul] at e
      split at e
      · cases e
        rename_i hc
        exact .inl ⟨i, j, rfl, rfl, hc, P.now R (.int _)⟩
      · cases e
    | _ => cases e
  | @str l hl =>
    cases r2 with
    | int j =>
      simp only [opMul] at e
      split at e
      · cases e
        rename_i hc
        exact .inr (.inl ⟨l, j, rfl, rfl, hc.2.1, hc.2.2, hc.1, P.now R (.str (okS_rep hl j))⟩)
      · cases e
    | _ => cases e
  | @ref n a ha =>
    cases r2 with
    | int j =>
      simp only [opMul] at e
      split at e
      · rename_i l e1
        split at e
        · cases e
          rename_i hc
          obtain ⟨xs, q1, r1⟩ := R.myL e1 ha
          have hL : LIM = 16000000 := rfl
          refine .inr (.inr ⟨a, j, xs, rfl, rfl, q1, ?_, ?_, ?_, fun p hp => P.lst R (r1.rep _) hp⟩)
          · have := hc.1
            omega
          · have := hc.2.1
            omega
          · rw [← r1.length]
            exact lim_ok hc.2.2
        · cases e
      · cases e
    | _ => cases e
  | _ => cases r2 <;> cases e
theorem ie_mul (ha : IE X cad a f) (hb : IE X cad b g) : IE X cad (.BinOp a .Mult b pos) (eBin opMul f g) := ie_bin op_mulA od_mul ha hb
def U1 := D → Sto → Option (D × Sto)
def eUn (o : D → Sto → Option (D × Sto)) (f : ME) : ME := fun ρ st => (f ρ st).bind fun p => o p.1 p.2
def opNeg : D → Sto → Option (D × Sto) := fun x st => match x with
  | .int i => some (.int (-i), st)
  | _ => none
theorem ie_neg (ha : IE X cad a f) : IE X cad (.UnaryOp .USub a pos) (eUn opNeg f) := by
  refine pe_weak (pe_un un_neg ha) fun σ H Q => ?_
  rintro ⟨as, st, ρ, d, st', R, E, q, P⟩
  obtain ⟨⟨x, st1⟩, e1, q⟩ := bind_some q
  refine tI_run R E e1 fun as1 H1 v x1 R1 E1 r1 => ?_
  cases r1 with
  | int i =>
    cases q
    exact ⟨i, rfl, (P.ext x1).now R1 (.int _)⟩
  | _ => cases q
def opOrd (ki : Int → Int → Bool) (ks : List Nat → List Nat → Bool) : O2 := fun x y st => match x, y with
  | .int i, .int j => some (.bl (ki i j), st)
  | .str l, .str m => some (.bl (ks l m), st)
  | _, _ => none
def rOrd (ki : Int → Int → Bool) (ks : List Nat → List Nat → Bool) : R2 := fun x y H Q => (∃ i j, x = .int i ∧ y = .int j ∧ Q (.bl (ki i j)) H) ∨ ∃ i j, x = .str i ∧ y = .str j ∧ Q (.bl (ks i.cps.toList j.cps.toList)) H
theorem od_ord {K : PySem.W.Frag} {ki : Int → Int → Bool} {ks : List Nat → List Nat → Bool} : OpD K cad (rOrd ki ks) (opOrd ki ks) := by
  intro as st H x y v w d st' Q R r1 r2 e P
  cases r1 with
  | int i =>
    cases r2 with
    | int j =>
      cases e
      exact .inl ⟨i, j, rfl, rfl, P.now R (.bl _)⟩
    | _ => cases e
  | str _ =>
    cases r2 with
    | str _ =>
      cases e
      exact .inr ⟨_, _, rfl, rfl, P.now R (.bl _)⟩
    | _ => cases e
  | _ => cases r2 <;> cases e
theorem opS {f : Value → Value → Sem Value} {ks : List Nat → List Nat → Bool}
    (h : ∀ {prog : Program} {w : World} {A : Around} {E : Value → Shared → Prop} {s : Shared} {x y : Str} {t u : Tok} {Q : Value → Shared → Prop}, Q (.bool (ks x.cps.toList y.cps.toList)) s → wpAny (model prog w) A (f (.str x t) (.str y u)) Q E s) :
    OpR X f (fun x y H Q => ∃ i j, x = .str i ∧ y = .str j ∧ Q (.bl (ks i.cps.toList j.cps.toList)) H) := by
  intro pins s σ H x y v u Q I rx ry z
  obtain ⟨i, j, rfl, rfl, q⟩ := z
  obtain ⟨t, rfl⟩ := rx
  obtain ⟨t', rfl⟩ := ry
  exact h ⟨.bl _, H, I, rfl, q⟩
def eCmp (o : O2) (f g : ME) : ME := eBin o f g
def kLt : O2 := opOrd (fun i j => decide (i < j)) fun l m => decide (l < m)
def kLe : O2 := opOrd (fun i j => decide (i ≤ j)) fun l m => !decide (m < l)
def kGt : O2 := opOrd (fun i j => decide (j < i)) fun l m => decide (m < l)
def kGe : O2 := opOrd (fun i j => decide (j ≤ i)) fun l m => !decide (l < m)
theorem op_kLt : OpR X (compareOp .Lt) (rOrd (fun i j => decide (i < j)) fun l m => decide (l < m)) := OpR.or op_lt (opS (ks := fun l m => decide (l < m)) fun h => PyProof.Rows.lt_str h)
theorem op_kLe : OpR X (compareOp .LtE) (rOrd (fun i j => decide (i ≤ j)) fun l m => !decide (m < l)) := OpR.or op_le (opS (ks := fun l m => !decide (m < l)) fun h => PySem.P.le_str h)
theorem op_kGt : OpR X (compareOp .Gt) (rOrd (fun i j => decide (j < i)) fun l m => decide (m < l)) := OpR.or op_gt (opS (ks := fun l m => decide (m < l)) fun h => PySem.P.gt_str h)
theorem op_kGe : OpR X (compareOp .GtE) (rOrd (fun i j => decide (j ≤ i)) fun l m => !decide (l < m)) := OpR.or op_ge (opS (ks := fun l m => !decide (l < m)) fun h => PySem.P.ge_str h)
structure Cmp (X : Cx) (cad : Cad) (op : CmpOp) (o : O2) : Prop where
  has : ∃ r, OpR X (compareOp op) r ∧ OpD X.K cad r o
theorem cm_lt : Cmp X cad .Lt kLt := ⟨⟨_, op_kLt, od_ord⟩⟩
theorem cm_le : Cmp X cad .LtE kLe := ⟨⟨_, op_kLe, od_ord⟩⟩
theorem cm_gt : Cmp X cad .Gt kGt := ⟨⟨_, op_kGt, od_ord⟩⟩
theorem cm_ge : Cmp X cad .GtE kGe := ⟨⟨_, op_kGe, od_ord⟩⟩
theorem ie_cmp {op : CmpOp} {o : O2} (h : Cmp X cad op o) (ha : IE X cad a f) (hb : IE X cad b g) (hm : behindInMarks op b = false) : IE X cad (.Compare a [op] [b] pos) (eBin o f g) := by
  obtain ⟨r, h1, h2⟩ := h.has
  exact pe_weak (pe_cmpR h1 ha hb hm) fun _ _ _ => tI_op h2
end
end MP

set_option maxRecDepth 100000
namespace MP
open PySem PySem.Spec PyProof.Rows L2
def mapO {α β : Type} (f : α → Option β) : List α → Option (List β)
  | [] => some []
  | a :: r => (f a).bind fun b => (mapO f r).map fun s => b :: s
def toP (st : Sto) : Nat → D → Option PyData
  | 0, _ => none
  | n + 1, d => match d with
    | .non => some .none
    | .bl b => some (.bool b)
    | .int i => some (.int i)
    | .str l => some (.str (mkS l))
    | .tup ds => (mapO (toP st n) ds).map .tuple
    | .ref k => match rdL st k with
      | some ds => (mapO (toP st n) ds).map .list
      | none => none
theorem map_some {α β : Type} {o : Option α} {k : α → β} {b : β} (h : o.map k = some b) : ∃ a, o = some a ∧ k a = b := by
  cases o with
  | none => cases h
  | some a => exact ⟨a, rfl, Option.some.inj h⟩
section
variable {K : PySem.W.Frag} {cad : Cad} {as : List Addr} {st : Sto} {H : Hp}
theorem toP_all {n : Nat} (ih : ∀ (d : D) (v : V) (p : PyData), VR K as H d v → toP st n d = some p → Dp K H v p ∧ p.canLay0 = true ∧ p.depth ≤ n) :
    ∀ {ds : List D} {vs : List V} {ps : List PyData}, VRs K as H ds vs → mapO (toP st n) ds = some ps → DpAll K H vs ps ∧ PyData.canLayAll0 ps = true ∧ PyData.depthAll ps ≤ n
  | _, _, _, .nil, e => by
    cases e
    exact ⟨.nil, rfl, Nat.zero_le _⟩
  | d :: ds, v :: vs, _, .cons r t, e => by
    obtain ⟨p, e1, e2⟩ := bind_some e
    obtain ⟨q, e3, rfl⟩ := map_some e2
    obtain ⟨h1, h2, h3⟩ := ih d v p r e1
    obtain ⟨h4, h5, h6⟩ := toP_all ih t e3
    refine ⟨.cons h1 h4, ?_, ?_⟩
    · show (PyData.canLay0 p && PyData.canLayAll0 q) = true
      rw [h2, h5]
      rfl
    · show max (PyData.depth p) (PyData.depthAll q) ≤ n
      omega
theorem toP_ok (R : Rel K cad as st H) : ∀ (n : Nat) (d : D) (v : V) (p : PyData), VR K as H d v → toP st n d = some p → Dp K H v p ∧ p.canLay0 = true ∧ p.depth ≤ n
  | 0, _, _, _, _, e => by cases e
  | n + 1, d, v, p, r, e => by
    have ih := toP_ok R n
    cases r with
    | non => cases e; exact ⟨.non, rfl, Nat.zero_le _⟩
    | bl b => cases e; exact ⟨.bl b, rfl, Nat.zero_le _⟩
    | int i => cases e; exact ⟨.int i, rfl, Nat.zero_le _⟩
    | @str l hl =>
      cases e
      refine ⟨.str _, ?_, Nat.zero_le _⟩
      show PyData.strOk (mkS l) = true
      unfold PyData.strOk mkS
      rw [List.all_toArray]
      exact hl
    | tup hs rs =>
      obtain ⟨q, e1, rfl⟩ := map_some e
      obtain ⟨h1, h2, h3⟩ := toP_all ih rs e1
      exact ⟨.tup hs h1, h2, Nat.succ_le_succ h3⟩
    | @ref k a ha =>
      simp only [toP] at e
      split at e
      · rename_i ds e0
        obtain ⟨q, e1, rfl⟩ := map_some e
        obtain ⟨xs, hs, rs⟩ := R.rdL e0 ha
        obtain ⟨h1, h2, h3⟩ := toP_all ih rs e1
        exact ⟨.lst hs h1, h2, Nat.succ_le_succ h3⟩
      · cases e
end
def DEEP : Nat := 50
def eqO (st : Sto) (x y : D) : Option Bool := match toP st DEEP x, toP st DEEP y with
  | some p, some q => some (PyData.eqv p q)
  | _, _ => none
def kEq : O2 := fun x y st => (eqO st x y).map fun b => (.bl b, st)
def kNe : O2 := fun x y st => (eqO st x y).map fun b => (.bl (!b), st)
theorem eqO_some {st : Sto} {x y : D} {b : Bool} (h : eqO st x y = some b) : ∃ p q, toP st DEEP x = some p ∧ toP st DEEP y = some q ∧ b = PyData.eqv p q := by
  unfold eqO at h
  split at h
  · rename_i p q e1 e2
    cases h
    exact ⟨p, q, e1, e2, rfl⟩
  · cases h
theorem shaped_of {p : PyData} (h1 : p.canLay0 = true) (h2 : p.depth ≤ DEEP) : SeqAt.shaped p = true := by
  unfold SeqAt.shaped
  rw [h1, decide_eq_true (Nat.le_trans h2 (by decide : DEEP ≤ 64))]
  rfl
section
variable {X : Cx} {cad : Cad} {e a b c : Expr} {f g h : ME} {pos : Pos}
theorem od_eq {K : PySem.W.Frag} : OpD K cad (rEqD K) kEq := by
  intro as st H x y v w d st' Q R r1 r2 e P
  obtain ⟨b, e1, e2⟩ := map_some e
  cases e2
  obtain ⟨p, q, e3, e4, rfl⟩ := eqO_some e1
  obtain ⟨h1, h2, h3⟩ := toP_ok R _ _ _ _ r1 e3
  obtain ⟨h4, h5, h6⟩ := toP_ok R _ _ _ _ r2 e4
  exact ⟨p, q, h1, h4, shaped_of h2 h3, shaped_of h5 h6, P.now R (.bl _)⟩
theorem od_ne {K : PySem.W.Frag} : OpD K cad (rNeD K) kNe := by
  intro as st H x y v w d st' Q R r1 r2 e P
  obtain ⟨b, e1, e2⟩ := map_some e
  cases e2
  obtain ⟨p, q, e3, e4, rfl⟩ := eqO_some e1
  obtain ⟨h1, h2, h3⟩ := toP_ok R _ _ _ _ r1 e3
  obtain ⟨h4, h5, h6⟩ := toP_ok R _ _ _ _ r2 e4
  exact ⟨p, q, h1, h4, shaped_of h2 h3, shaped_of h5 h6, P.now R (.bl _)⟩
theorem cm_eq (hu : X.A.units + 64 < cLine) : Cmp X cad .Eq kEq := ⟨⟨_, op_eqD hu, od_eq⟩⟩
theorem cm_ne (hu : X.A.units + 64 < cLine) : Cmp X cad .NotEq kNe := ⟨⟨_, op_neD hu, od_ne⟩⟩
def kIs : O2 := fun x y st => match x, y with
  | .non, .non => some (.bl true, st)
  | _, .non => some (.bl false, st)
  | _, _ => none
def kIsNot : O2 := fun x y st => match x, y with
  | .non, .non => some (.bl false, st)
  | _, .non => some (.bl true, st)
  | _, _ => none
theorem od_is {K : PySem.W.Frag} : OpD K cad (fun x y H Q => y = .non ∧ Q (.bl (decide (x = .non))) H) kIs := by
  intro as st H x y v w d st' Q R r1 r2 e P
  cases r2 with
  | non =>
    cases r1 <;> (cases e; refine ⟨rfl, ?_⟩; exact P.now R (.bl _))
  | _ => cases r1 <;> cases e
theorem od_isnot {K : PySem.W.Frag} : OpD K cad (fun x y H Q => y = .non ∧ Q (.bl (!decide (x = .non))) H) kIsNot := by
  intro as st H x y v w d st' Q R r1 r2 e P
  cases r2 with
  | non =>
    cases r1 <;> (cases e; refine ⟨rfl, ?_⟩; exact P.now R (.bl _))
  | _ => cases r1 <;> cases e
theorem cm_is : Cmp X cad .Is kIs := ⟨⟨_, op_isN, od_is⟩⟩
theorem cm_isnot : Cmp X cad .IsNot kIsNot := ⟨⟨_, op_notN, od_isnot⟩⟩
noncomputable def eqItem (h : Heap) (q : PyData) (u : Value) : Bool := by
  classical exact if hu : ∃ p as, Reads h u p as ∧ p.canLay0 = true then PyData.eqv (Classical.choose hu) q else false
theorem eqItem_of {h : Heap} {q p : PyData} {u : Value} {as : List Addr} (r : Reads h u p as) (c : p.canLay0 = true) : eqItem h q u = PyData.eqv p q := by
  have hu : ∃ p as, Reads h u p as ∧ p.canLay0 = true := ⟨p, as, r, c⟩
  unfold eqItem
  rw [dif_pos hu]
  obtain ⟨as', r', c'⟩ := Classical.choose_spec hu
  rw [PySem.SeqAt.Reads.unique _ _ _ _ _ c r r']
def rInD (K : PySem.W.Frag) (neg : Bool) : R2 := fun x y H Q => ∃ p xs q ps, y = .ref p ∧ (SqL K H p xs ∨ SqT K H p xs) ∧ Dp K H x q ∧ q.canLay0 = true ∧ q.depth ≤ 60 ∧ DpAll K H xs ps ∧ PyData.canLayAll0 ps = true ∧
  Q (.bl (if neg then !ps.any (fun p => PyData.eqv p q) else ps.any fun p => PyData.eqv p q)) H
theorem readsAll_mem {h : Heap} {q : PyData} {v : Value} {A : Around} {s : Shared} (hs : s.heap = h) (hv : ∃ bs, Reads h v q bs) (hq : q.canLay0 = true) (hu : A.units + q.depth < cLine) :
    ∀ {us : List Value} {ps : List PyData} {as : List Addr}, ReadsAll h us ps as → PyData.canLayAll0 ps = true → (∀ u ∈ us, SeqAt.EqAt A s u v (eqItem h q u)) ∧ us.any (eqItem h q) = ps.any fun p => PyData.eqv p q
  | [], _, _, .nil, _ => ⟨(fun u hu => by cases hu), rfl⟩
  | u :: us, p :: ps, _, .cons r t, c => by
    have c' : (PyData.canLay0 p && PyData.canLayAll0 ps) = true := c
    rw [Bool.and_eq_true] at c'
    obtain ⟨h1, h2⟩ := readsAll_mem hs hv hq hu t c'.2
    have e := eqItem_of (q := q) r c'.1
    refine ⟨fun u' hu' => ?_, ?_⟩
    · rcases List.mem_cons.mp hu' with rfl | hu'
      · rw [e]
        obtain ⟨bs, rv⟩ := hv
        subst hs
        refine SeqAt.eqAt_reads p q A s _ _ _ _ r rv c'.1 hq ?_
        have : min p.depth q.depth ≤ q.depth := Nat.min_le_right _ _
        omega
      · exact h1 u' hu'
    · rw [List.any_cons, List.any_cons, h2, e]
theorem op_inD (hu : X.A.units + 64 < cLine) : OpR X (compareOp .In) (rInD X.K false) := by
  intro pins s σ H x y v u Q I rx ry h
  obtain ⟨p, xs, q, ps, rfl, hq, dx, cx, ex, da, ca, k⟩ := h
  cases ry
  have hv := Dp.reads I q x v dx rx
  have hu1 : X.A.in1.units + q.depth < cLine := by
    show X.A.units + 1 + q.depth < cLine
    omega
  rcases hq with hq | hq
  · obtain ⟨its, r, pl, hz⟩ := I.list hq
    obtain ⟨as, ra⟩ := Dp.readsAll I ps xs its da r
    obtain ⟨m1, m2⟩ := readsAll_mem (A := X.A.in1) rfl hv cx hu1 ra ca
    refine SeqAt.in_listAt (eqItem s.heap q) pl.isList (fun w hw => m1 w (by simpa using hw)) ⟨.bl _, H, I, rfl, ?_⟩
    rw [show its.toArray.any (eqItem s.heap q) = its.any (eqItem s.heap q) by simp, m2]
    exact k
  · obtain ⟨its, r, pl, hz⟩ := I.tuple hq
    obtain ⟨as, ra⟩ := Dp.readsAll I ps xs its da r
    obtain ⟨m1, m2⟩ := readsAll_mem (A := X.A.in1) rfl hv cx hu1 ra ca
    refine SeqAt.in_tupleAt (eqItem s.heap q) pl (fun w hw => m1 w (by simpa using hw)) ⟨.bl _, H, I, rfl, ?_⟩
    rw [show its.toArray.any (eqItem s.heap q) = its.any (eqItem s.heap q) by simp, m2]
    exact k
theorem op_notInD (hu : X.A.units + 64 < cLine) : OpR X (compareOp .NotIn) (rInD X.K true) := by
  intro pins s σ H x y v u Q I rx ry h
  obtain ⟨p, xs, q, ps, rfl, hq, dx, cx, ex, da, ca, k⟩ := h
  cases ry
  have hv := Dp.reads I q x v dx rx
  have hu1 : X.A.in1.units + q.depth < cLine := by
    show X.A.units + 1 + q.depth < cLine
    omega
  rcases hq with hq | hq
  · obtain ⟨its, r, pl, hz⟩ := I.list hq
    obtain ⟨as, ra⟩ := Dp.readsAll I ps xs its da r
    obtain ⟨m1, m2⟩ := readsAll_mem (A := X.A.in1) rfl hv cx hu1 ra ca
    refine SeqAt.notIn_listAt (eqItem s.heap q) pl.isList (fun w hw => m1 w (by simpa using hw)) ⟨.bl _, H, I, rfl, ?_⟩
    rw [show its.toArray.any (eqItem s.heap q) = its.any (eqItem s.heap q) by simp, m2]
    exact k
  · obtain ⟨its, r, pl, hz⟩ := I.tuple hq
    obtain ⟨as, ra⟩ := Dp.readsAll I ps xs its da r
    obtain ⟨m1, m2⟩ := readsAll_mem (A := X.A.in1) rfl hv cx hu1 ra ca
    refine SeqAt.notIn_tupleAt (eqItem s.heap q) pl (fun w hw => m1 w (by simpa using hw)) ⟨.bl _, H, I, rfl, ?_⟩
    rw [show its.toArray.any (eqItem s.heap q) = its.any (eqItem s.heap q) by simp, m2]
    exact k
def keyOf : D → Option Key
  | .int i => some (.inl i)
  | .str l => some (.inr (mkS l))
  | _ => none
def valD (kvs : List (Key × D)) (k : Key) : Option D := (kvs.find? fun kv => decide (kv.1 = k)).map (·.2)
theorem keyOf_is {K : PySem.W.Frag} {as : List Addr} {H : Hp} {x : D} {v : V} {k : Key} (r : VR K as H x v) (e : keyOf x = some k) : v = kV k := by
  cases r with
  | int i => cases e; rfl
  | str h => cases e; rfl
  | _ => cases e
abbrev KVR (K : PySem.W.Frag) (as : List Addr) (H : Hp) : List (Key × D) → List (Key × V) → Prop := Paired (fun (p : Key × D) (q : Key × V) => p.1 = q.1 ∧ VR K as H p.2 q.2)
def VRO (K : PySem.W.Frag) (as : List Addr) (H : Hp) : Option D → Option V → Prop
  | some d, some v => VR K as H d v
  | none, none => True
  | _, _ => False
theorem KVR.val {K : PySem.W.Frag} {as : List Addr} {H : Hp} {kvs : List (Key × D)} {xs : List (Key × V)} (r : KVR K as H kvs xs) (k : Key) : VRO K as H (valD kvs k) (valV xs k) := by
  induction r with
  | nil => trivial
  | @cons p q ps qs h _ ih =>
    unfold valD valV
    rw [List.find?_cons, List.find?_cons, h.1]
    by_cases e : q.1 = k
    · rw [decide_eq_true e]
      exact h.2
    · rw [decide_eq_false e]
      exact ih
def myD (st : Sto) (n : Nat) : Option (List (Key × D)) := match st[n]? with
  | some (.dic kvs) => some kvs
  | _ => none
theorem myD_at {st : Sto} {n : Nat} {kvs : List (Key × D)} (h : myD st n = some kvs) : st[n]? = some (.dic kvs) := by
  unfold myD at h
  split at h
  · rename_i es e
    cases h
    exact e
  · cases h
def rdK (st : Sto) (n : Nat) : Option (List (Key × D)) := match st[n]? with
  | some (.dic kvs) => some kvs
  | some (.fd kvs) => some kvs
  | _ => none
theorem rdK_my {st : Sto} {n : Nat} {kvs : List (Key × D)} (h : myD st n = some kvs) : rdK st n = some kvs := by
  unfold rdK
  rw [myD_at h]
theorem Rel.rdK {K : PySem.W.Frag} {as : List Addr} {st : Sto} {H : Hp} {n : Nat} {a : Addr} {kvs : List (Key × D)} (R : Rel K cad as st H) (h : rdK st n = some kvs) (ha : as[n]? = some a) : ∃ xs, Rd H a (.dK xs) ∧ KVR K as H kvs xs := by
  unfold MP.rdK at h
  split at h
  · rename_i es e
    cases h
    obtain ⟨xs, q, r⟩ := R.ob n _ a e ha
    exact ⟨xs, .inl q, r⟩
  · rename_i es e
    cases h
    obtain ⟨o, xs, q, r⟩ := R.ob n _ a e ha
    exact ⟨xs, .inr ⟨o, q⟩, r⟩
  · cases h
theorem Rel.myD {K : PySem.W.Frag} {as : List Addr} {st : Sto} {H : Hp} {n : Nat} {a : Addr} {kvs : List (Key × D)} (R : Rel K cad as st H) (h : myD st n = some kvs) (ha : as[n]? = some a) : ∃ xs, H a = some (.dK xs) ∧ KVR K as H kvs xs := R.ob n _ a (myD_at h) ha
def subS (l m : List Nat) : Bool := !(Builtin.Str.occurrences (mkS m) (mkS l) 0 (mkS m).length 1).isEmpty
theorem subS_one (c : Nat) (m : List Nat) : subS [c] m = decide (c ∈ m) := PySem.StrLaws.found_one (mkS m) c
def inD (st : Sto) (x : D) (ds : List D) : Option Bool := match toP st DEEP x, mapO (toP st DEEP) ds with
  | some p, some ps => some (ps.any fun q => PyData.eqv q p)
  | _, _ => none
def inO (st : Sto) (x y : D) : Option Bool := match y with
  | .tup ds => inD st x ds
  | .str m => match x with
    | .str l => some (subS l m)
    | _ => none
  | .ref k => match rdL st k with
    | some ds => inD st x ds
    | none => match myD st k, keyOf x with
      | some kvs, some key => some (valD kvs key).isSome
      | _, _ => none
  | _ => none
def kIn (neg : Bool) : O2 := fun x y st => (inO st x y).map fun b => (.bl (if neg then !b else b), st)
def rInS (neg : Bool) : R2 := fun x y H Q => ∃ i j, x = .str i ∧ y = .str j ∧ Q (.bl (if neg then !(!(Builtin.Str.occurrences j i 0 j.length 1).isEmpty) else !(Builtin.Str.occurrences j i 0 j.length 1).isEmpty)) H
def rInK (neg : Bool) : R2 := fun x y H Q => ∃ a o, y = .ref a ∧ DGet H a x o ∧ Q (.bl (if neg then !o.isSome else o.isSome)) H
theorem op_inS : OpR X (compareOp .In) (rInS false) := op_in_str
theorem op_notInS : OpR X (compareOp .NotIn) (rInS true) := op_notIn_str
theorem op_inK (hu : X.A.units + 64 < cLine) : OpR X (compareOp .In) (rInK false) := by
  intro pins s σ H x y v u Q I rx ry h
  obtain ⟨a, o, rfl, g, q⟩ := h
  cases ry
  exact d_in (by omega) I g rx fun s' I' => ⟨.bl _, H, I', rfl, q⟩
theorem op_notInK (hu : X.A.units + 64 < cLine) : OpR X (compareOp .NotIn) (rInK true) := by
  intro pins s σ H x y v u Q I rx ry h
  obtain ⟨a, o, rfl, g, q⟩ := h
  cases ry
  exact d_notIn (by omega) I g rx fun s' I' => ⟨.bl _, H, I', rfl, q⟩
theorem inD_some {st : Sto} {x : D} {ds : List D} {b : Bool} (h : inD st x ds = some b) : ∃ p ps, toP st DEEP x = some p ∧ mapO (toP st DEEP) ds = some ps ∧ b = ps.any fun q => PyData.eqv q p := by
  unfold inD at h
  split at h
  · rename_i p ps e1 e2
    cases h
    exact ⟨p, ps, e1, e2, rfl⟩
  · cases h
theorem inD_to {K : PySem.W.Frag} {neg : Bool} {as : List Addr} {st : Sto} {H : Hp} {x : D} {v : V} {ds : List D} {xs : List V} {a : Addr} {b : Bool} {Q : VK} (R : Rel K cad as st H) (r1 : VR K as H x v) (h : inD st x ds = some b)
    (hs : SqL K H a xs ∨ SqT K H a xs) (rs : VRs K as H ds xs) (P : Post K cad as H st (.bl (if neg then !b else b)) Q) : rInD K neg v (.ref a) H Q := by
  obtain ⟨p, ps, e3, e4, rfl⟩ := inD_some h
  obtain ⟨h1, h2, h3⟩ := toP_ok R _ _ _ _ r1 e3
  obtain ⟨h4, h5, h6⟩ := toP_all (toP_ok R DEEP) rs e4
  exact ⟨a, xs, p, ps, rfl, hs, h1, h2, Nat.le_trans h3 (by decide : DEEP ≤ 60), h4, h5, P.now R (.bl _)⟩
theorem od_in {K : PySem.W.Frag} (neg : Bool) : OpD K cad (fun x y H Q => rInD K neg x y H Q ∨ rInS neg x y H Q ∨ rInK neg x y H Q) (kIn neg) := by
  intro as st H x y v w d st' Q R r1 r2 e P
  obtain ⟨b, e1, e2⟩ := map_some e
  cases e2
  cases r2 with
  | @tup a xs ds hs rs => exact .inl (inD_to R r1 e1 (.inr hs) rs P)
  | @str m hm =>
    cases r1 with
    | @str l hl =>
      simp only [inO] at e1
      cases e1
      exact .inr (.inl ⟨_, _, rfl, rfl, P.now R (.bl _)⟩)
    | _ => cases e1
  | @ref k a ha =>
    simp only [inO] at e1
    split at e1
    · rename_i ds e0
      obtain ⟨xs, hs, rs⟩ := R.rdL e0 ha
      exact .inl (inD_to R r1 e1 (.inl hs) rs P)
    · split at e1
      · rename_i kvs key e3 e4
        cases e1
        obtain ⟨xs, hs, rs⟩ := R.myD e3 ha
        refine .inr (.inr ⟨a, valV xs key, rfl, ?_, ?_⟩)
        · rw [keyOf_is r1 e4]
          exact DGet.k hs
        · have hv := rs.val key
          have e5 : (valD kvs key).isSome = (valV xs key).isSome := by
            cases h1 : valD kvs key <;> cases h2 : valV xs key <;> rw [h1, h2] at hv <;> first | rfl | exact hv.elim
          rw [e5] at P
          exact P.now R (.bl _)
      · cases e1
  | _ => cases e1
theorem cm_in (hu : X.A.units + 64 < cLine) : Cmp X cad .In (kIn false) := ⟨⟨_, (op_inD hu).or (op_inS.or (op_inK hu)), od_in false⟩⟩
theorem cm_notIn (hu : X.A.units + 64 < cLine) : Cmp X cad .NotIn (kIn true) := ⟨⟨_, (op_notInD hu).or (op_notInS.or (op_notInK hu)), od_in true⟩⟩
def truD (st : Sto) : D → Option Bool
  | .non => some false
  | .bl b => some b
  | .int i => some (i != 0)
  | .str l => if l.length ≤ LIM then some (!l.isEmpty) else none
  | .tup ds => some (!ds.isEmpty)
  | .ref n => match rdL st n with
    | some ds => some (!ds.isEmpty)
    | none => (myD st n).map fun kvs => !kvs.isEmpty
theorem truD_ok {K : PySem.W.Frag} {as : List Addr} {st : Sto} {H : Hp} {d : D} {v : V} {b : Bool} (R : Rel K cad as st H) (r : VR K as H d v) (e : truD st d = some b) : TruV K v H b := by
  cases r with
  | non => cases e; rfl
  | bl k => cases e; rfl
  | int i => cases e; rfl
  | @str l hl =>
    simp only [truD] at e
    split at e
    · cases e
      rename_i hz
      refine ⟨?_, ?_⟩
      · rw [mkS_len]
        exact lim_ok hz
      · rw [mkS_len]
        cases l <;> rfl
    · cases e
  | @tup a xs ds hs rs =>
    cases e
    exact .inr (.inl ⟨xs, hs, by rw [rs.isEmpty]⟩)
  | @ref n a ha =>
    simp only [truD] at e
    split at e
    · rename_i ds e0
      cases e
      obtain ⟨xs, hs, rs⟩ := R.rdL e0 ha
      exact .inl ⟨xs, hs, by rw [rs.isEmpty]⟩
    · obtain ⟨kvs, e1, rfl⟩ := map_some e
      obtain ⟨xs, hs, rs⟩ := R.myD e1 ha
      refine .inr (.inr ⟨xs, hs, ?_⟩)
      cases rs <;> rfl
def tOf (f : ME) : MT := fun ρ st => (f ρ st).bind fun p => (truD p.2 p.1).map fun b => (b, p.2)
theorem it_of (ha : IE X cad a f) (he : ∀ whole, isTrue a X.env whole = (do let v ← whole; standAt a.pos; holding [v] (truthy v)) := by intro _; rfl) : IT X cad a (tOf f) := by
  refine pt_weak (pt_truth ha he) fun σ H Q => ?_
  rintro ⟨as, st, ρ, d, st', R, E, q, P⟩
  obtain ⟨⟨x, st1⟩, e1, q⟩ := bind_some q
  obtain ⟨k, e2, e3⟩ := map_some q
  obtain ⟨rfl, rfl⟩ := Prod.mk.inj e3
  exact tI_run R E e1 fun as1 H1 v x1 R1 E1 r1 => ⟨k, truD_ok R1 r1 e2, P as1 H1 x1 R1⟩
theorem it_cmp {op : CmpOp} {o : O2} (h : Cmp X cad op o) (ha : IE X cad a f) (hb : IE X cad b g) (hm : behindInMarks op b = false) (ho : ∀ x y st d st', o x y st = some (d, st') → ∃ k, d = .bl k) : IT X cad (.Compare a [op] [b] pos) (tOf (eBin o f g)) := by
  obtain ⟨r, h1, h2⟩ := h.has
  refine pt_weak (pt_cmpR h1 ha hb hm) fun σ H Q => ?_
  rintro ⟨as, st, ρ, d, st', R, E, q, P⟩
  obtain ⟨⟨x, st1⟩, e1, q⟩ := bind_some q
  obtain ⟨k, e2, e3⟩ := map_some q
  obtain ⟨rfl, rfl⟩ := Prod.mk.inj e3
  refine tI_op h2 ⟨as, st, ρ, x, st1, R, E, e1, fun as1 H1 v x1 R1 r1 => ?_⟩
  obtain ⟨⟨y1, s1⟩, _, f2⟩ := bind_some e1
  obtain ⟨⟨y2, s2⟩, _, f2⟩ := bind_some f2
  obtain ⟨k', rfl⟩ := ho _ _ _ _ _ f2
  have e4 : k' = k := Option.some.inj e2
  subst e4
  cases r1
  exact ⟨k', rfl, P as1 H1 x1 R1⟩
end
end MP

set_option maxRecDepth 100000
namespace MP
open PySem PySem.Spec PyProof.Rows L2

section
variable {X : Cx} {cad : Cad} {e a b c : Expr} {f g h : ME} {t u : MT} {pos : Pos} {rest : List Expr}
def tAnd (t u : MT) : MT := fun ρ st => (t ρ st).bind fun p => if p.1 = true then u ρ p.2 else some (false, p.2)
def tOr (t u : MT) : MT := fun ρ st => (t ρ st).bind fun p => if p.1 = true then some (true, p.2) else u ρ p.2
def tNot (t : MT) : MT := fun ρ st => (t ρ st).map fun p => (!p.1, p.2)
def IW (X : Cx) (cad : Cad) (e : Expr) (t : MT) : Prop := PW X e (tIT X.K cad t)
theorem tIT_run {K : PySem.W.Frag} {cad : Cad} {as : List Addr} {st st' : Sto} {H : Hp} {ρ : Rho} {σ : L2.St} {t : MT} {b : Bool} {Q : Bool → Hp → Prop} (R : Rel K cad as st H) (E : ER K as H ρ σ) (e : t ρ st = some (b, st'))
    (P : ∀ as' H', Ext K as H as' H' → Rel K cad as' st' H' → ER K as' H' ρ σ → Q b H') : tIT K cad t σ H Q :=
  ⟨as, st, ρ, b, st', R, E, e, fun as' H' x R' => P as' H' x R' (E.mono x)⟩
theorem tIA_run {K : PySem.W.Frag} {cad : Cad} {as : List Addr} {st st' : Sto} {H : Hp} {ρ : Rho} {σ : L2.St} {f : MA} {ds : List D} {Q : List V → Hp → Prop} (R : Rel K cad as st H) (E : ER K as H ρ σ) (e : f ρ st = some (ds, st'))
    (P : ∀ as' H' vs, Ext K as H as' H' → Rel K cad as' st' H' → ER K as' H' ρ σ → VRs K as' H' ds vs → Q vs H') : tIA K cad f σ H Q :=
  ⟨as, st, ρ, ds, st', R, E, e, fun as' H' v x R' r => P as' H' v x R' (E.mono x) r⟩
theorem iw_and1 (ha : IT X cad a t) : IW X cad (.BoolOp .And [a] pos) t := pw_and1 ha
theorem iw_or1 (ha : IT X cad a t) : IW X cad (.BoolOp .Or [a] pos) t := pw_or1 ha
theorem iw_and (ha : IT X cad a t) (hb : IW X cad (.BoolOp .And (b :: rest) pos) u) : IW X cad (.BoolOp .And (a :: b :: rest) pos) (tAnd t u) := by
  refine pw_weak (pw_and ha hb) fun σ H Q => ?_
  rintro ⟨as, st, ρ, d, st', R, E, q, P⟩
  obtain ⟨⟨x, st1⟩, e1, q⟩ := bind_some q
  refine tIT_run R E e1 fun as1 H1 x1 R1 E1 => ?_
  cases x with
  | true => exact iteT (tIT_run R1 E1 q fun as2 H2 x2 R2 E2 => P as2 H2 (x1.trans x2) R2)
  | false =>
    cases q
    exact iteF (P as1 H1 x1 R1)
theorem iw_or (ha : IT X cad a t) (hb : IW X cad (.BoolOp .Or (b :: rest) pos) u) : IW X cad (.BoolOp .Or (a :: b :: rest) pos) (tOr t u) := by
  refine pw_weak (pw_or ha hb) fun σ H Q => ?_
  rintro ⟨as, st, ρ, d, st', R, E, q, P⟩
  obtain ⟨⟨x, st1⟩, e1, q⟩ := bind_some q
  refine tIT_run R E e1 fun as1 H1 x1 R1 E1 => ?_
  cases x with
  | true =>
    cases q
    exact iteT (P as1 H1 x1 R1)
  | false => exact iteF (tIT_run R1 E1 q fun as2 H2 x2 R2 E2 => P as2 H2 (x1.trans x2) R2)
theorem it_bool (h : IW X cad a t) : IT X cad a t := PW.pt h
theorem it_not (ha : IT X cad a t) : IT X cad (.UnaryOp .Not a pos) (tNot t) := by
  refine pt_weak (pt_not ha) fun σ H Q => ?_
  rintro ⟨as, st, ρ, d, st', R, E, q, P⟩
  obtain ⟨⟨x, st1⟩, e1, e2⟩ := map_some q
  obtain ⟨rfl, rfl⟩ := Prod.mk.inj e2
  exact tIT_run R E e1 fun as1 H1 x1 R1 E1 => P as1 H1 x1 R1
def eAnd (f g : ME) : ME := fun ρ st => (f ρ st).bind fun p => (truD p.2 p.1).bind fun k => if k = true then g ρ p.2 else some p
def eOr (f g : ME) : ME := fun ρ st => (f ρ st).bind fun p => (truD p.2 p.1).bind fun k => if k = true then some p else g ρ p.2
def eNot (f : ME) : ME := fun ρ st => (f ρ st).bind fun p => (truD p.2 p.1).map fun k => (.bl (!k), p.2)
theorem ie_one {op} (ha : IE X cad a f) : IE X cad (.BoolOp op [a] pos) f := pe_one ha
theorem ie_andV (ha : IE X cad a f) (hb : IE X cad (.BoolOp .And (b :: rest) pos) g) : IE X cad (.BoolOp .And (a :: b :: rest) pos) (eAnd f g) := by
  refine pe_weak (pe_andT ha hb) fun σ H Q => ?_
  rintro ⟨as, st, ρ, d, st', R, E, q, P⟩
  obtain ⟨⟨x, st1⟩, e1, q⟩ := bind_some q
  obtain ⟨k, e2, q⟩ := bind_some q
  refine tI_run R E e1 fun as1 H1 v x1 R1 E1 r1 => ⟨k, truD_ok R1 r1 e2, ?_⟩
  cases k with
  | true => exact iteT (tI_run R1 E1 q fun as2 H2 w x2 R2 E2 r2 => P as2 H2 w (x1.trans x2) R2 r2)
  | false =>
    cases q
    exact iteF (P as1 H1 v x1 R1 r1)
theorem ie_orV (ha : IE X cad a f) (hb : IE X cad (.BoolOp .Or (b :: rest) pos) g) : IE X cad (.BoolOp .Or (a :: b :: rest) pos) (eOr f g) := by
  refine pe_weak (pe_orT ha hb) fun σ H Q => ?_
  rintro ⟨as, st, ρ, d, st', R, E, q, P⟩
  obtain ⟨⟨x, st1⟩, e1, q⟩ := bind_some q
  obtain ⟨k, e2, q⟩ := bind_some q
  refine tI_run R E e1 fun as1 H1 v x1 R1 E1 r1 => ⟨k, truD_ok R1 r1 e2, ?_⟩
  cases k with
  | true =>
    cases q
    exact iteT (P as1 H1 v x1 R1 r1)
  | false => exact iteF (tI_run R1 E1 q fun as2 H2 w x2 R2 E2 r2 => P as2 H2 w (x1.trans x2) R2 r2)
theorem ie_notV (ha : IE X cad a f) : IE X cad (.UnaryOp .Not a pos) (eNot f) := by
  refine pe_weak (pe_notT ha) fun σ H Q => ?_
  rintro ⟨as, st, ρ, d, st', R, E, q, P⟩
  obtain ⟨⟨x, st1⟩, e1, q⟩ := bind_some q
  obtain ⟨k, e2, e3⟩ := map_some q
  obtain ⟨rfl, rfl⟩ := Prod.mk.inj e3
  exact tI_run R E e1 fun as1 H1 v x1 R1 E1 r1 => ⟨k, truD_ok R1 r1 e2, (P.ext x1).now R1 (.bl _)⟩
def eIf (t : MT) (f g : ME) : ME := fun ρ st => (t ρ st).bind fun p => if p.1 = true then f ρ p.2 else g ρ p.2
theorem ie_if (ht : IT X cad c t) (ha : IE X cad a f) (hb : IE X cad b g) : IE X cad (.IfExp c a b pos) (eIf t f g) := by
  refine pe_weak (pe_ifExp ht ha hb) fun σ H Q => ?_
  rintro ⟨as, st, ρ, d, st', R, E, q, P⟩
  obtain ⟨⟨x, st1⟩, e1, q⟩ := bind_some q
  refine tIT_run R E e1 fun as1 H1 x1 R1 E1 => ?_
  cases x with
  | true => exact iteT (tI_run R1 E1 q fun as2 H2 w x2 R2 E2 r2 => P as2 H2 w (x1.trans x2) R2 r2)
  | false => exact iteF (tI_run R1 E1 q fun as2 H2 w x2 R2 E2 r2 => P as2 H2 w (x1.trans x2) R2 r2)
def eChain (o o' : O2) (f g h : ME) : ME := fun ρ st => (f ρ st).bind fun x => (g ρ x.2).bind fun y => (o x.1 y.1 y.2).bind fun r => match r.1 with
  | .bl true => (h ρ r.2).bind fun z => o' y.1 z.1 z.2
  | .bl false => some (.bl false, r.2)
  | _ => none
theorem chain_to {K : PySem.W.Frag} {r r' : R2} {o o' : O2} (h1 : OpD K cad r o) (h2 : OpD K cad r' o') {σ : L2.St} {H : Hp} {Q : VK} (hw : tI K cad (eChain o o' f g h) σ H Q) : tChain r r' (tI K cad f) (tI K cad g) (tI K cad h) σ H Q := by
  obtain ⟨as, st, ρ, d, st', R, E, q, P⟩ := hw
  obtain ⟨⟨x, st1⟩, e1, q⟩ := bind_some q
  obtain ⟨⟨y, st2⟩, e2, q⟩ := bind_some q
  obtain ⟨⟨z, st3⟩, e3, q⟩ := bind_some q
  refine tI_run R E e1 fun as1 H1 v x1 R1 E1 r1 => tI_run R1 E1 e2 fun as2 H2 w x2 R2 E2 r2 => h1 as2 st2 H2 x y v w z st3 _ R2 (r1.mono x2) r2 e3 fun as3 H3 u x3 R3 r3 => ?_
  cases r3 with
  | bl k =>
    refine ⟨k, rfl, ?_⟩
    cases k with
    | true =>
      obtain ⟨⟨z, st4⟩, e4, q⟩ := bind_some q
      exact iteT (tI_run R3 (E2.mono x3) e4 fun as4 H4 s x4 R4 E4 r4 => h2 as4 st4 H4 y z w s d st' Q R4 (r2.mono (x3.trans x4)) r4 q (P.ext (x1.trans (x2.trans (x3.trans x4)))))
    | false =>
      cases q
      exact iteF ((P.ext (x1.trans (x2.trans x3))).now R3 (.bl _))
  | _ => cases q
theorem ie_chain {op op' : CmpOp} {o o' : O2} (h1 : Cmp X cad op o) (h2 : Cmp X cad op' o') (ha : IE X cad a f) (hb : IE X cad b g) (hc : IE X cad c h) (hm : lastMarks [op, op'] [b, c] = false := by with_unfolding_all rfl) : IE X cad (.Compare a [op, op'] [b, c] pos) (eChain o o' f g h) := by
  obtain ⟨r, h1, h1'⟩ := h1.has
  obtain ⟨r', h2, h2'⟩ := h2.has
  exact pe_weak (pe_chain h1 h2 ha hb hc hm) fun _ _ _ => chain_to h1' h2'
def IsBl (o : O2) : Prop := ∀ x y st d st', o x y st = some (d, st') → ∃ k, d = .bl k
theorem bl_ord {ki ks} : IsBl (opOrd ki ks) := by
  intro x y st d st' e
  cases x <;> cases y <;> first | (cases e; exact ⟨_, rfl⟩) | cases e
theorem bl_eq : IsBl kEq := by
  intro x y st d st' e
  obtain ⟨b, _, e2⟩ := map_some e
  cases e2
  exact ⟨_, rfl⟩
theorem bl_ne : IsBl kNe := by
  intro x y st d st' e
  obtain ⟨b, _, e2⟩ := map_some e
  cases e2
  exact ⟨_, rfl⟩
theorem bl_in {neg : Bool} : IsBl (kIn neg) := by
  intro x y st d st' e
  obtain ⟨b, _, e2⟩ := map_some e
  cases e2
  exact ⟨_, rfl⟩
theorem bl_is : IsBl kIs := by
  intro x y st d st' e
  cases x <;> cases y <;> first | (cases e; exact ⟨_, rfl⟩) | cases e
theorem bl_isnot : IsBl kIsNot := by
  intro x y st d st' e
  cases x <;> cases y <;> first | (cases e; exact ⟨_, rfl⟩) | cases e
theorem eChain_bl {o o' : O2} (h2 : IsBl o') {ρ : Rho} {st : Sto} {d : D} {st' : Sto} (e : eChain o o' f g h ρ st = some (d, st')) : ∃ k, d = .bl k := by
  obtain ⟨x, e1, q⟩ := bind_some e
  obtain ⟨y, e2, q⟩ := bind_some q
  obtain ⟨⟨z, st3⟩, e3, q⟩ := bind_some q
  cases z with
  | bl k =>
    cases k with
    | true =>
      obtain ⟨z, e4, q⟩ := bind_some q
      exact h2 _ _ _ _ _ q
    | false =>
      cases q
      exact ⟨_, rfl⟩
  | _ => cases q
theorem it_chain {op op' : CmpOp} {o o' : O2} (h1 : Cmp X cad op o) (h2 : Cmp X cad op' o') (ha : IE X cad a f) (hb : IE X cad b g) (hc : IE X cad c h) (ho : IsBl o') (hm : lastMarks [op, op'] [b, c] = false := by with_unfolding_all rfl) :
    IT X cad (.Compare a [op, op'] [b, c] pos) (tOf (eChain o o' f g h)) := by
  obtain ⟨r, h1, h1'⟩ := h1.has
  obtain ⟨r', h2, h2'⟩ := h2.has
  refine pt_weak (pt_chain h1 h2 ha hb hc hm) fun σ H Q => ?_
  rintro ⟨as, st, ρ, d, st', R, E, q, P⟩
  obtain ⟨⟨x, st1⟩, e1, q⟩ := bind_some q
  obtain ⟨k, e2, e3⟩ := map_some q
  obtain ⟨rfl, rfl⟩ := Prod.mk.inj e3
  refine chain_to h1' h2' ⟨as, st, ρ, x, st1, R, E, e1, fun as1 H1 v x1 R1 r1 => ?_⟩
  obtain ⟨k', rfl⟩ := eChain_bl ho e1
  have e4 : k' = k := Option.some.inj e2
  subst e4
  cases r1
  exact ⟨k', rfl, P as1 H1 x1 R1⟩
def aNil : MA := fun _ st => some ([], st)
def aCons (f : ME) (g : MA) : MA := fun ρ st => (f ρ st).bind fun p => (g ρ p.2).bind fun q => some (p.1 :: q.1, q.2)
theorem ia_nil : IA X cad [] aNil := by
  refine pa_weak pa_nil fun σ H Q => ?_
  rintro ⟨as, st, ρ, d, st', R, E, q, P⟩
  cases q
  exact P as H [] .refl R .nil
theorem ia_cons {es : List Expr} {g : MA} (ha : IE X cad a f) (hb : IA X cad es g) (hs : starEach (a :: es) X.env = (false, eval a X.env) :: starEach es X.env := by rfl) : IA X cad (a :: es) (aCons f g) := by
  refine pa_weak (pa_cons ha hb hs) fun σ H Q => ?_
  rintro ⟨as, st, ρ, d, st', R, E, q, P⟩
  obtain ⟨⟨x, st1⟩, e1, q⟩ := bind_some q
  obtain ⟨⟨ys, st2⟩, e2, q⟩ := bind_some q
  cases q
  exact tI_run R E e1 fun as1 H1 v x1 R1 E1 r1 => tIA_run R1 E1 e2 fun as2 H2 vs x2 R2 E2 r2 => P as2 H2 (v :: vs) (x1.trans x2) R2 (.cons (r1.mono x2) r2)
def eTup (g : MA) : ME := fun ρ st => (g ρ st).bind fun p => if p.1.length ≤ LIM then some (.tup p.1, p.2) else none
def eLst (g : MA) : ME := fun ρ st => (g ρ st).bind fun p => if p.1.length ≤ LIM then some (.ref p.2.length, p.2 ++ [.lst p.1]) else none
theorem ie_tup {es : List Expr} {g : MA} {x1} (h : IA X cad es g) : IE X cad (.Tuple es x1 pos) (eTup g) := by
  refine pe_weak (pe_tup h) fun σ H Q => ?_
  rintro ⟨as, st, ρ, d, st', R, E, q, P⟩
  obtain ⟨⟨ys, st1⟩, e1, q⟩ := bind_some q
  simp only at q
  split at q
  · rename_i hl
    cases q
    refine tIA_run R E e1 fun as1 H1 vs x1 R1 E1 r1 => ⟨?_, fun p hp => (P.ext x1).tup R1 r1 hp⟩
    rw [← r1.length]
    exact lim_ok hl
  · cases q
theorem ie_lst {es : List Expr} {g : MA} (h : IA X cad es g) : IE X cad (.List es pos) (eLst g) := by
  refine pe_weak (pe_lst h) fun σ H Q => ?_
  rintro ⟨as, st, ρ, d, st', R, E, q, P⟩
  obtain ⟨⟨ys, st1⟩, e1, q⟩ := bind_some q
  simp only at q
  split at q
  · rename_i hl
    cases q
    refine tIA_run R E e1 fun as1 H1 vs x1 R1 E1 r1 => ⟨?_, fun p hp => (P.ext x1).lst R1 r1 hp⟩
    rw [← r1.length]
    exact lim_ok hl
  · cases q
def eDic0 : ME := fun _ st => some (.ref st.length, st ++ [.dic []])
theorem ie_dic0 : IE X cad (.Dict [] [] pos) eDic0 := by
  refine pe_weak pe_dnewK fun σ H Q => ?_
  rintro ⟨as, st, ρ, d, st', R, E, q, P⟩
  cases q
  exact fun p hp => P.dic R hp
theorem ix_dict (hu : X.A.units + 64 < cLine) : IxR X (fun x y H Q => ∃ a v, x = .ref a ∧ DGet H a y (some v) ∧ Q v H) := by
  intro value slice pins s σ H x y v u Q I rx ry h hs
  obtain ⟨a, w, rfl, g, q⟩ := h
  obtain rfl : v = Value.ref a := rx
  exact tail_any (dict_typeIs I g) PySem.F.slot_dict_getitem.lookup (d_getItem (by omega) I g ry fun w' s' I' r' => ⟨w, H, I', r', q⟩) hs
def ixO (x y : D) (st : Sto) : Option D := match x with
  | .tup ds => match y with
    | .int i => atI ds i
    | _ => none
  | .str l => match y with
    | .int i => if l.length ≤ LIM then (atI l i).map fun c => .str [c] else none
    | _ => none
  | .ref k => match rdL st k with
    | some ds => match y with
      | .int i => atI ds i
      | _ => none
    | none => match rdK st k, keyOf y with
      | some kvs, some key => valD kvs key
      | _, _ => none
  | _ => none
def kIx : O2 := fun x y st => (ixO x y st).map fun d => (d, st)
theorem VRs.atI {K : PySem.W.Frag} {as : List Addr} {H : Hp} {ds : List D} {vs : List V} {i : Int} {d : D} (r : VRs K as H ds vs) (e : atI ds i = some d) : ∃ v, L2.atI vs i = some v ∧ VR K as H d v := by
  unfold L2.atI at e ⊢
  rw [← r.length]
  obtain ⟨j, e1, e2⟩ := bind_some e
  obtain ⟨v, e3, r3⟩ := r.get e2
  exact ⟨v, by rw [e1]; exact e3, r3⟩
theorem od_ix {K : PySem.W.Frag} : OpD K cad (fun x y H Q => rIxL K x y H Q ∨ rIxT K x y H Q ∨ rIxS x y H Q ∨ ∃ a v, x = .ref a ∧ DGet H a y (some v) ∧ Q v H) kIx := by
  intro as st H x y v w d st' Q R r1 r2 e P
  obtain ⟨d', e1, e2⟩ := map_some e
  cases e2
  cases r1 with
  | @tup a xs ds hs rs =>
    cases r2 with
    | int i =>
      obtain ⟨v, e3, r3⟩ := rs.atI e1
      exact .inr (.inl ⟨a, xs, i, v, rfl, rfl, hs, e3, P.now R r3⟩)
    | _ => cases e1
  | @str l hl =>
    cases r2 with
    | int i =>
      simp only [ixO] at e1
      split at e1
      · rename_i hz
        obtain ⟨c, e3, rfl⟩ := map_some e1
        refine .inr (.inr (.inl ⟨mkS l, i, c, rfl, rfl, ?_, e3, ?_⟩))
        · rw [mkS_len]
          exact lim_ok hz
        · refine P.now R (VR.str (l := [c]) (okS_sub hl fun z hz => ?_))
          have : z = c := by simpa using hz
          subst this
          unfold L2.atI at e3
          obtain ⟨j, _, e4⟩ := bind_some e3
          exact List.mem_of_getElem? e4
      · cases e1
    | _ => cases e1
  | @ref k a ha =>
    simp only [ixO] at e1
    split at e1
    · rename_i ds e0
      obtain ⟨xs, hs, rs⟩ := R.rdL e0 ha
      cases r2 with
      | int i =>
        obtain ⟨v, e3, r3⟩ := rs.atI e1
        exact .inl ⟨a, xs, i, v, rfl, rfl, hs, e3, P.now R r3⟩
      | _ => cases e1
    · split at e1
      · rename_i kvs key e3 e4
        obtain ⟨xs, hs, rs⟩ := R.rdK e3 ha
        have hv := rs.val key
        rw [e1] at hv
        cases e5 : valV xs key with
        | none =>
          rw [e5] at hv
          exact hv.elim
        | some z =>
          rw [e5] at hv
          refine .inr (.inr (.inr ⟨a, z, rfl, ?_, P.now R hv⟩))
          rw [keyOf_is r2 e4, ← e5]
          exact .inl ⟨_, _, hs, rfl, rfl⟩
      · cases e1
  | _ => cases e1
theorem ie_ix (hu : X.A.units + 64 < cLine) (ha : IE X cad a f) (hb : IE X cad b g) (hs : PlainIx b) : IE X cad (.Subscript a b pos) (eBin kIx f g) :=
  pe_weak (pe_ix (ix_list.or (ix_tup.or (ix_str.or (ix_dict hu)))) ha hb hs) fun _ _ _ => tI_op od_ix
abbrev MO := Rho → Sto → Option (Option Int × Sto)
def oNone : MO := fun _ st => some (none, st)
def oSome (f : ME) : MO := fun ρ st => (f ρ st).bind fun p => match p.1 with
  | .int i => some (some i, p.2)
  | _ => none
def tIO (K : PySem.W.Frag) (cad : Cad) (f : MO) : TO := fun σ H Q => ∃ as st ρ o st', Rel K cad as st H ∧ ER K as H ρ σ ∧ f ρ st = some (o, st') ∧ ∀ as' H', Ext K as H as' H' → Rel K cad as' st' H' → Q o H'
def IO' (X : Cx) (cad : Cad) (e : Option Expr) (f : MO) : Prop := PO X e (tIO X.K cad f)
theorem po_weak {o : Option Expr} {t t' : TO} (h : PO X o t) (w : ∀ σ H Q, t' σ H Q → t σ H Q) : PO X o t' := ⟨fun pins s σ H Q I q => h.run pins s σ H Q I (w σ H Q q)⟩
theorem io_none : IO' X cad none oNone := by
  refine po_weak po_none fun σ H Q => ?_
  rintro ⟨as, st, ρ, d, st', R, E, q, P⟩
  cases q
  exact P as H .refl R
theorem io_some (ha : IE X cad a f) : IO' X cad (some a) (oSome f) := by
  refine po_weak (po_some ha) fun σ H Q => ?_
  rintro ⟨as, st, ρ, d, st', R, E, q, P⟩
  obtain ⟨⟨x, st1⟩, e1, q⟩ := bind_some q
  refine tI_run R E e1 fun as1 H1 v x1 R1 E1 r1 => ?_
  cases r1 with
  | int i =>
    cases q
    exact ⟨i, rfl, P as1 H1 x1 R1⟩
  | _ => cases q
def cutG {α : Type} (xs : List α) (lo hi : Option Int) : List α := (xs.drop (HT.sIx xs.length 0 lo)).take (HT.sIx xs.length xs.length hi - HT.sIx xs.length 0 lo)
def slO (x : D) (lo hi : Option Int) (st : Sto) : Option (D × Sto) := match x with
  | .str l => if l.length ≤ LIM then some (.str (cutG l lo hi), st) else none
  | .tup ds => if HT.sIx ds.length 0 lo = 0 ∧ HT.sIx ds.length ds.length hi = ds.length then none else some (.tup (cutG ds lo hi), st)
  | .ref k => (rdL st k).map fun ds => (.ref st.length, st ++ [.lst (cutG ds lo hi)])
  | _ => none
def eSl (f : ME) (p q : MO) : ME := fun ρ st => (f ρ st).bind fun x => (p ρ x.2).bind fun y => (q ρ y.2).bind fun z => slO x.1 y.1 z.1 z.2
theorem VRs.cut {K : PySem.W.Frag} {as : List Addr} {H : Hp} {ds : List D} {vs : List V} (r : VRs K as H ds vs) (lo hi : Option Int) : VRs K as H (cutG ds lo hi) (cutV vs lo hi) := by
  unfold cutG cutV
  rw [r.length]
  exact (r.drop _).take _
theorem ie_sl {lo hi : Option Expr} {p q : MO} {p2 : Pos} (ha : IE X cad a f) (hl : IO' X cad lo p) (hh : IO' X cad hi q) : IE X cad (.Subscript a (.Slice lo hi none p2) pos) (eSl f p q) := by
  refine pe_weak (pe_slice (sl_list.or (sl_tup.or sl_str)) ha hl hh) fun σ H Q => ?_
  rintro ⟨as, st, ρ, d, st', R, E, w, P⟩
  obtain ⟨⟨x, st1⟩, e1, w⟩ := bind_some w
  obtain ⟨⟨y, st2⟩, e2, w⟩ := bind_some w
  obtain ⟨⟨z, st3⟩, e3, w⟩ := bind_some w
  refine tI_run R E e1 fun as1 H1 v x1 R1 E1 r1 => ⟨as1, st1, ρ, y, st2, R1, E1, e2, fun as2 H2 x2 R2 => ⟨as2, st2, ρ, z, st3, R2, E1.mono x2, e3, fun as3 H3 x3 R3 => ?_⟩⟩
  have r3 := r1.mono (x2.trans x3)
  have P3 := P.ext (x1.trans (x2.trans x3))
  cases r3 with
  | @str l hl =>
    simp only [slO] at w
    split at w
    · rename_i hz
      cases w
      refine .inr (.inr ⟨mkS l, rfl, ?_, ?_⟩)
      · rw [mkS_len]
        exact lim_ok hz
      · have e4 : cutS (mkS l) y z = mkS (cutG l y z) := by
          unfold cutS cutG mkS
          simp [Str.length]
        rw [e4]
        exact P3.now R3 (.str (okS_sub hl fun c hc => List.mem_of_mem_drop (List.mem_of_mem_take hc)))
    · cases w
  | @tup b xs ds hs rs =>
    simp only [slO] at w
    split at w
    · cases w
    · rename_i hz
      cases w
      refine .inr (.inl ⟨b, xs, rfl, hs, ?_, fun p hp => P3.tup R3 (rs.cut y z) hp⟩)
      rw [← rs.length]
      exact hz
  | @ref k b hb =>
    obtain ⟨ds, e4, e5⟩ := map_some w
    cases e5
    obtain ⟨xs, hs, rs⟩ := R3.rdL e4 hb
    exact .inl ⟨b, xs, rfl, hs, fun p hp => P3.lst R3 (rs.cut y z) hp⟩
  | _ => cases w
end
end MP

set_option maxRecDepth 100000
namespace MP
open PySem PySem.Spec PyProof.Rows L2
abbrev FN := List D → Sto → Option (D × Sto)
def spOf (K : PySem.W.Frag) (cad : Cad) (F : FN) : Sp := fun vs H Q _ => ∃ as st ds d st', Rel K cad as st H ∧ VRs K as H ds vs ∧ F ds st = some (d, st') ∧ Post K cad as H st' d Q
structure FnFact (P : Program) (w : World) (K : PySem.W.Frag) (mg : Str → Option Value) (base : Heap) (cad : Cad) (x : Str) (k : Nat) (dds : List D) (F : FN) : Prop where
  ex : ∃ (f : Addr) (fd : FuncData) (ps : List Str) (dvs : List V) (dus : List Value), FnOk P w K mg base CX0 k f fd ps (spOf K cad F) ∧ mg x = some (.ref f) ∧ PySem.W.keepIn K (.ref f) = true ∧ Binds K fd ps dus ∧ Vals dvs dus ∧ ∀ as H, VRs K as H dds dvs
def eCall (F : FN) (g : MA) : ME := fun ρ st => (g ρ st).bind fun p => F p.1 p.2
def eCallD (F : FN) (dds : List D) (g : MA) : ME := fun ρ st => (g ρ st).bind fun p => F (p.1 ++ dds) p.2
section
variable {X : Cx} {cad : Cad} {e a b c : Expr} {f h : ME} {g : MA} {pos p apos : Pos} {es : List Expr} {x : Str} {k : Nat} {F : FN} {dds : List D}
theorem ie_callD (G : FnFact X.prog X.w X.K X.mg X.base cad x k dds F) (hr : Room k X.A) (hg : Gl X x) (ha : IA X cad (e :: es) g) (hdb : (x == ("__debug__" : Str)) = false := by decide)
    (he : starEach (e :: es) X.env = (false, eval e X.env) :: starEach es X.env := by rfl) (hpl : (backTo pos (starEach es X.env)).any (·.1) = false := by rfl) : IE X cad (.Call (.Name x p) (e :: es) [] pos) (eCallD F dds g) := by
  obtain ⟨fa, fd, ps, dvs, dus, G, hm, hk, hb, hd, hv⟩ := G.ex
  refine pe_weak (pe_call (E := E0) G hr hg hm hk hb hd pass0 ha hdb he hpl) fun σ H Q => ?_
  rintro ⟨as, st, ρ, d, st', R, E, q, P⟩
  obtain ⟨⟨ys, st1⟩, e1, q⟩ := bind_some q
  exact tIA_run R E e1 fun as1 H1 vs x1 R1 E1 r1 => ⟨as1, st1, ys ++ dds, d, st', R1, r1.append (hv as1 H1), q, P.ext x1⟩
theorem ie_call (G : FnFact X.prog X.w X.K X.mg X.base cad x k [] F) (hr : Room k X.A) (hg : Gl X x) (ha : IA X cad (e :: es) g) (hdb : (x == ("__debug__" : Str)) = false := by decide)
    (he : starEach (e :: es) X.env = (false, eval e X.env) :: starEach es X.env := by rfl) (hpl : (backTo pos (starEach es X.env)).any (·.1) = false := by rfl) : IE X cad (.Call (.Name x p) (e :: es) [] pos) (eCall F g) := by
  have h := ie_callD G hr hg ha hdb he hpl (p := p)
  refine pe_weak h fun σ H Q => ?_
  rintro ⟨as, st, ρ, d, st', R, E, q, P⟩
  refine ⟨as, st, ρ, d, st', R, E, ?_, P⟩
  unfold eCallD
  simp only [List.append_nil]
  exact q
theorem ie_callD0 (G : FnFact X.prog X.w X.K X.mg X.base cad x k dds F) (hr : Room k X.A) (hg : Gl X x) (hdb : (x == ("__debug__" : Str)) = false := by decide) : IE X cad (.Call (.Name x p) [] [] pos) (eCallD F dds aNil) := by
  obtain ⟨fa, fd, ps, dvs, dus, G, hm, hk, hb, hd, hv⟩ := G.ex
  refine pe_weak (pe_call0 (E := E0) G hr hg hm hk hb hd pass0 hdb) fun σ H Q => ?_
  rintro ⟨as, st, ρ, d, st', R, E, q, P⟩
  exact ⟨as, st, dds, d, st', R, hv as H, q, P⟩
theorem ie_call0 (G : FnFact X.prog X.w X.K X.mg X.base cad x k [] F) (hr : Room k X.A) (hg : Gl X x) (hdb : (x == ("__debug__" : Str)) = false := by decide) : IE X cad (.Call (.Name x p) [] [] pos) (eCall F aNil) := ie_callD0 G hr hg hdb
def CallD (K : PySem.W.Frag) (cad : Cad) (r : List V → Hp → VK → Prop) (o : FN) : Prop :=
  ∀ (as : List Addr) (st : Sto) (H : Hp) (ds : List D) (vs : List V) (d : D) (st' : Sto) (Q : VK), Rel K cad as st H → VRs K as H ds vs → o ds st = some (d, st') → Post K cad as H st' d Q → r vs H Q
theorem CallD.or1 {K : PySem.W.Frag} {r r' : List V → Hp → VK → Prop} {o : FN} (h : CallD K cad r o) : CallD K cad (fun x H Q => r x H Q ∨ r' x H Q) o := fun as st H ds vs d st' Q R r1 e P => .inl (h as st H ds vs d st' Q R r1 e P)
theorem ie_callB {id : String} {r : List V → Hp → VK → Prop} {o : FN} (hd : CallD X.K cad r o) (hc : CallR X (.builtin id) r) (hg : Gl X x) (hm : X.mg x = none) (hv : bootBuiltins x = some (.builtin id)) (ha : IA X cad (e :: es) g)
    (hn : x ≠ "__name__" := by decide) (hdb : (x == ("__debug__" : Str)) = false := by decide) (he : starEach (e :: es) X.env = (false, eval e X.env) :: starEach es X.env := by rfl) (hpl : (backTo pos (starEach es X.env)).any (·.1) = false := by rfl) :
    IE X cad (.Call (.Name x p) (e :: es) [] pos) (eCall o g) := by
  refine pe_weak (pe_callB hc hg hm hv ha hn hdb he hpl) fun σ H Q => ?_
  rintro ⟨as, st, ρ, d, st', R, E, q, P⟩
  obtain ⟨⟨ys, st1⟩, e1, q⟩ := bind_some q
  exact tIA_run R E e1 fun as1 H1 vs x1 R1 E1 r1 => hd as1 st1 H1 ys vs d st' Q R1 r1 q (P.ext x1)
theorem ie_callTy {T : String} {r : List V → Hp → VK → Prop} {o : FN} (hd : CallD X.K cad r o) (hc : CallR X (.type T) r) (hg : Gl X x) (hm : X.mg x = none) (hv : bootBuiltins x = some (.type T)) (ha : IA X cad (e :: es) g)
    (hn : x ≠ "__name__" := by decide) (hdb : (x == ("__debug__" : Str)) = false := by decide) (he : starEach (e :: es) X.env = (false, eval e X.env) :: starEach es X.env := by rfl) (hpl : (backTo pos (starEach es X.env)).any (·.1) = false := by rfl) :
    IE X cad (.Call (.Name x p) (e :: es) [] pos) (eCall o g) := by
  refine pe_weak (pe_callTy hc hg hm hv ha hn hdb he hpl) fun σ H Q => ?_
  rintro ⟨as, st, ρ, d, st', R, E, q, P⟩
  obtain ⟨⟨ys, st1⟩, e1, q⟩ := bind_some q
  exact tIA_run R E e1 fun as1 H1 vs x1 R1 E1 r1 => hd as1 st1 H1 ys vs d st' Q R1 r1 q (P.ext x1)
def o1 (o : D → Sto → Option D) : FN := fun ds st => match ds with
  | [x] => (o x st).map fun d => (d, st)
  | _ => none
theorem cd1 {K : PySem.W.Frag} {r : List V → Hp → VK → Prop} {o : D → Sto → Option D} (h : ∀ (as : List Addr) (st : Sto) (H : Hp) (x : D) (v : V) (d : D) (Q : VK), Rel K cad as st H → VR K as H x v → o x st = some d → Post K cad as H st d Q → r [v] H Q) : CallD K cad r (o1 o) := by
  intro as st H ds vs d st' Q R r1 e P
  match ds, r1, e with
  | [x], .cons r2 .nil, e =>
    obtain ⟨d', e1, e2⟩ := map_some e
    obtain ⟨rfl, rfl⟩ := Prod.mk.inj e2
    exact h as st H x _ d' Q R r2 e1 P
def lenO (x : D) (st : Sto) : Option D := match x with
  | .str l => if l.length ≤ LIM then some (.int l.length) else none
  | .tup ds => some (.int ds.length)
  | .ref k => match rdL st k with
    | some ds => some (.int ds.length)
    | none => (myD st k).map fun kvs => .int kvs.length
  | _ => none
def rLenA (K : PySem.W.Frag) : List V → Hp → VK → Prop := fun xs H Q => (∃ x n, xs = [x] ∧ LenV K x H n ∧ Q (.int n) H) ∨ ∃ a kvs, xs = [V.ref a] ∧ H a = some (.dK kvs) ∧ Q (.int kvs.length) H
theorem cr_lenA : CallR X (.builtin "len") (rLenA X.K) := call_len.or call_lenD
theorem KVR.length {K : PySem.W.Frag} {as : List Addr} {H : Hp} {kvs : List (Key × D)} {xs : List (Key × V)} (r : KVR K as H kvs xs) : kvs.length = xs.length := Paired.length r
theorem cd_len {K : PySem.W.Frag} : CallD K cad (rLenA K) (o1 lenO) := cd1 fun as st H x v d Q R r e P => by
  cases r with
  | @str l hl =>
    simp only [lenO] at e
    split at e
    · rename_i hz
      cases e
      refine .inl ⟨_, l.length, rfl, ⟨?_, ?_⟩, P.now R (.int _)⟩
      · rw [mkS_len]
        exact lim_ok hz
      · rw [mkS_len]
    · cases e
  | @tup a xs ds hs rs =>
    cases e
    exact .inl ⟨_, ds.length, rfl, .inr ⟨xs, hs, rs.length⟩, P.now R (.int _)⟩
  | @ref n a ha =>
    simp only [lenO] at e
    split at e
    · rename_i ds e0
      cases e
      obtain ⟨xs, hs, rs⟩ := R.rdL e0 ha
      exact .inl ⟨_, ds.length, rfl, .inl ⟨xs, hs, rs.length⟩, P.now R (.int _)⟩
    · obtain ⟨kvs, e1, rfl⟩ := map_some e
      obtain ⟨xs, hs, rs⟩ := R.myD e1 ha
      refine .inr ⟨a, xs, rfl, hs, ?_⟩
      have h2 := P.now R (.int _)
      rw [rs.length] at h2
      exact h2
  | _ => cases e
theorem ie_len (hg : Gl X "len") (hm : X.mg "len" = none) (ha : IA X cad (e :: es) g) (he : starEach (e :: es) X.env = (false, eval e X.env) :: starEach es X.env := by rfl) (hpl : (backTo pos (starEach es X.env)).any (·.1) = false := by rfl) :
    IE X cad (.Call (.Name "len" p) (e :: es) [] pos) (eCall (o1 lenO) g) := ie_callB cd_len cr_lenA hg hm (by decide +kernel) ha (by decide) (by decide) he hpl
def absO (x : D) (_ : Sto) : Option D := match x with
  | .int i => some (.int (if i < 0 then -i else i))
  | _ => none
theorem cd_abs {K : PySem.W.Frag} : CallD K cad (fun xs H Q => ∃ i, xs = [V.int i] ∧ Q (.int (if i < 0 then -i else i)) H) (o1 absO) := cd1 fun as st H x v d Q R r e P => by
  cases r with
  | int i => cases e; exact ⟨i, rfl, P.now R (.int _)⟩
  | _ => cases e
theorem ie_abs (hg : Gl X "abs") (hm : X.mg "abs" = none) (ha : IA X cad (e :: es) g) (he : starEach (e :: es) X.env = (false, eval e X.env) :: starEach es X.env := by rfl) (hpl : (backTo pos (starEach es X.env)).any (·.1) = false := by rfl) :
    IE X cad (.Call (.Name "abs" p) (e :: es) [] pos) (eCall (o1 absO) g) := ie_callB cd_abs call_abs hg hm (by decide +kernel) ha (by decide) (by decide) he hpl
def intO (x : D) (_ : Sto) : Option D := match x with
  | .int i => some (.int i)
  | .bl k => some (.int (if k then 1 else 0))
  | _ => none
theorem cd_int {K : PySem.W.Frag} : CallD K cad (fun xs H Q => (∃ i, xs = [V.int i] ∧ Q (.int i) H) ∨ ∃ k, xs = [V.bl k] ∧ Q (.int (if k then 1 else 0)) H) (o1 intO) := cd1 fun as st H x v d Q R r e P => by
  cases r with
  | int i => cases e; exact .inl ⟨i, rfl, P.now R (.int _)⟩
  | bl i => cases e; exact .inr ⟨i, rfl, P.now R (.int _)⟩
  | _ => cases e
theorem ie_toInt (hg : Gl X "int") (hm : X.mg "int" = none) (ha : IA X cad (e :: es) g) (he : starEach (e :: es) X.env = (false, eval e X.env) :: starEach es X.env := by rfl) (hpl : (backTo pos (starEach es X.env)).any (·.1) = false := by rfl) :
    IE X cad (.Call (.Name "int" p) (e :: es) [] pos) (eCall (o1 intO) g) := ie_callTy cd_int call_int1 hg hm (by decide +kernel) ha (by decide) (by decide) he hpl
def blsO : List D → Option (List Bool)
  | [] => some []
  | .bl b :: r => (blsO r).map fun s => b :: s
  | _ => none
theorem blsO_to {K : PySem.W.Frag} {as : List Addr} {H : Hp} : ∀ {ds : List D} {vs : List V} {bs : List Bool}, VRs K as H ds vs → blsO ds = some bs → vs = bs.map V.bl
  | _, _, _, .nil, e => by cases e; rfl
  | d :: ds, v :: vs, bs, .cons r t, e => by
    cases r with
    | bl b =>
      obtain ⟨s, e1, rfl⟩ := map_some e
      rw [blsO_to t e1]
      rfl
    | _ => cases e
def allO (x : D) (st : Sto) : Option D := match x with
  | .ref k => ((rdL st k).bind blsO).map fun bs => .bl (bs.all id)
  | _ => none
def anyO (x : D) (st : Sto) : Option D := match x with
  | .ref k => ((rdL st k).bind blsO).map fun bs => .bl (bs.any id)
  | _ => none
theorem cd_all {K : PySem.W.Frag} : CallD K cad (rAll K) (o1 allO) := cd1 fun as st H x v d Q R r e P => by
  cases r with
  | @ref n a ha =>
    obtain ⟨bs, e1, rfl⟩ := map_some e
    obtain ⟨ds, e2, e3⟩ := bind_some e1
    obtain ⟨xs, hs, rs⟩ := R.rdL e2 ha
    rw [blsO_to rs e3] at hs
    exact ⟨a, bs, rfl, hs, P.now R (.bl _)⟩
  | _ => cases e
theorem cd_any {K : PySem.W.Frag} : CallD K cad (rAny K) (o1 anyO) := cd1 fun as st H x v d Q R r e P => by
  cases r with
  | @ref n a ha =>
    obtain ⟨bs, e1, rfl⟩ := map_some e
    obtain ⟨ds, e2, e3⟩ := bind_some e1
    obtain ⟨xs, hs, rs⟩ := R.rdL e2 ha
    rw [blsO_to rs e3] at hs
    exact ⟨a, bs, rfl, hs, P.now R (.bl _)⟩
  | _ => cases e
theorem ie_all (hc : X.calm = true) (hg : Gl X "all") (hm : X.mg "all" = none) (ha : IA X cad (e :: es) g) (he : starEach (e :: es) X.env = (false, eval e X.env) :: starEach es X.env := by rfl) (hpl : (backTo pos (starEach es X.env)).any (·.1) = false := by rfl) :
    IE X cad (.Call (.Name "all" p) (e :: es) [] pos) (eCall (o1 allO) g) := ie_callB cd_all (cr_all hc) hg hm (by decide +kernel) ha (by decide) (by decide) he hpl
theorem ie_any (hc : X.calm = true) (hg : Gl X "any") (hm : X.mg "any" = none) (ha : IA X cad (e :: es) g) (he : starEach (e :: es) X.env = (false, eval e X.env) :: starEach es X.env := by rfl) (hpl : (backTo pos (starEach es X.env)).any (·.1) = false := by rfl) :
    IE X cad (.Call (.Name "any" p) (e :: es) [] pos) (eCall (o1 anyO) g) := ie_callB cd_any (cr_any hc) hg hm (by decide +kernel) ha (by decide) (by decide) he hpl
def sgnI (i : Int) : List Nat := (toString i).toList.map Char.toNat
theorem okS_chars (l : List Char) : okS (l.map Char.toNat) = true := okS_of fun c hc => by
  obtain ⟨z, _, rfl⟩ := List.mem_map.mp hc
  have h := z.valid
  show z.toNat < 1114112
  have h2 : z.toNat = z.val.toNat := rfl
  rw [h2]
  rcases h with h | h
  · omega
  · omega
def strO (x : D) (_ : Sto) : Option D := match x with
  | .int i => if i.natAbs.log2 < 1920 then some (.str (sgnI i)) else none
  | _ => none
theorem cd_str {K : PySem.W.Frag} : CallD K cad (fun xs H Q => ∃ i, xs = [V.int i] ∧ i.natAbs.log2 < 1920 ∧ Q (.str (toString i)) H) (o1 strO) := cd1 fun as st H x v d Q R r e P => by
  cases r with
  | int i =>
    simp only [strO] at e
    split at e
    · rename_i hz
      cases e
      refine ⟨i, rfl, hz, ?_⟩
      have h1 : (Str.ofString (toString i)) = mkS (sgnI i) := by
        rw [← mkS_of (Str.ofString (toString i))]
        congr 1
        exact TL.tl_ofString _
      show Q (.str (Str.ofString (toString i))) H
      rw [h1]
      exact P.now R (.str (okS_chars _))
    · cases e
  | _ => cases e
theorem ie_toStr (hg : Gl X "str") (hm : X.mg "str" = none) (ha : IA X cad (e :: es) g) (he : starEach (e :: es) X.env = (false, eval e X.env) :: starEach es X.env := by rfl) (hpl : (backTo pos (starEach es X.env)).any (·.1) = false := by rfl) :
    IE X cad (.Call (.Name "str" p) (e :: es) [] pos) (eCall (o1 strO) g) := ie_callTy cd_str call_str_int hg hm (by decide +kernel) ha (by decide) (by decide) he hpl
def listF : FN := fun ds st => match ds with
  | [.ref k] => (rdL st k).map fun xs => (.ref st.length, st ++ [.lst xs])
  | [.tup xs] => some (.ref st.length, st ++ [.lst xs])
  | _ => none
theorem cd_list {K : PySem.W.Frag} : CallD K cad (fun xs H Q => ∃ p ys, xs = [V.ref p] ∧ (SqL K H p ys ∨ SqT K H p ys) ∧ ∀ l, H l = none → Q (.ref l) (upd H l (.lst ys))) listF := by
  intro as st H ds vs d st' Q R r1 e P
  cases r1 with
  | nil => cases e
  | cons r2 t =>
    cases t with
    | cons _ _ => cases r2 <;> cases e
    | nil =>
      cases r2 with
      | @tup a xs es hs rs =>
        cases e
        exact ⟨a, xs, rfl, .inr hs, fun p hp => P.lst R rs hp⟩
      | @ref n a ha =>
        obtain ⟨ds, e1, e2⟩ := map_some e
        cases e2
        obtain ⟨xs, hs, rs⟩ := R.rdL e1 ha
        exact ⟨a, xs, rfl, .inl hs, fun p hp => P.lst R rs hp⟩
      | _ => cases e
theorem ie_toList (hg : Gl X "list") (hm : X.mg "list" = none) (ha : IA X cad (e :: es) g) (he : starEach (e :: es) X.env = (false, eval e X.env) :: starEach es X.env := by rfl) (hpl : (backTo pos (starEach es X.env)).any (·.1) = false := by rfl) :
    IE X cad (.Call (.Name "list" p) (e :: es) [] pos) (eCall listF g) := ie_callTy cd_list call_list_of hg hm (by decide +kernel) ha (by decide) (by decide) he hpl
def tupleO (x : D) (st : Sto) : Option D := match x with
  | .ref k => (rdL st k).map fun xs => .tup xs
  | .tup xs => some (.tup xs)
  | _ => none
theorem cd_tuple {K : PySem.W.Frag} : CallD K cad (fun xs H Q => ∃ p ys, xs = [V.ref p] ∧ ((SqL K H p ys ∧ ∀ l, H l = none → Q (.ref l) (upd H l (.tup ys))) ∨ (SqT K H p ys ∧ Q (.ref p) H))) (o1 tupleO) := cd1 fun as st H x v d Q R r e P => by
  cases r with
  | @tup a xs es hs rs =>
    cases e
    exact ⟨a, xs, rfl, .inr ⟨hs, P.now R (.tup hs rs)⟩⟩
  | @ref n a ha =>
    obtain ⟨ds, e1, e2⟩ := map_some e
    cases e2
    obtain ⟨xs, hs, rs⟩ := R.rdL e1 ha
    exact ⟨a, xs, rfl, .inl ⟨hs, fun p hp => P.tup R rs hp⟩⟩
  | _ => cases e
theorem ie_toTuple (hg : Gl X "tuple") (hm : X.mg "tuple" = none) (ha : IA X cad (e :: es) g) (he : starEach (e :: es) X.env = (false, eval e X.env) :: starEach es X.env := by rfl) (hpl : (backTo pos (starEach es X.env)).any (·.1) = false := by rfl) :
    IE X cad (.Call (.Name "tuple" p) (e :: es) [] pos) (eCall (o1 tupleO) g) := ie_callTy cd_tuple call_tuple_of hg hm (by decide +kernel) ha (by decide) (by decide) he hpl
inductive Ty where
  | non | bl | int | str | tup | lst | dic
  deriving DecidableEq
def Ty.name : Ty → String
  | .non => "NoneType"
  | .bl => "bool"
  | .int => "int"
  | .str => "str"
  | .tup => "tuple"
  | .lst => "list"
  | .dic => "dict"
def Ty.isa (t n : Ty) : Bool := decide (t = n) || (decide (t = .bl) && decide (n = .int))
theorem Ty.kit (t n : Ty) (h : n ≠ .non) : kitB t.name n.name = some (t.isa n) := by
  cases n with
  | non => exact absurd rfl h
  | bl => cases t <;> decide +kernel
  | int => cases t <;> decide +kernel
  | str => cases t <;> decide +kernel
  | tup => cases t <;> decide +kernel
  | lst => cases t <;> decide +kernel
  | dic => cases t <;> decide +kernel
def tyD (st : Sto) : D → Option Ty
  | .non => some .non
  | .bl _ => some .bl
  | .int _ => some .int
  | .str _ => some .str
  | .tup _ => some .tup
  | .ref k => match st[k]? with
    | some (.lst _) => some .lst
    | some (.fz _) => some .lst
    | some (.dic _) => some .dic
    | _ => none
theorem tyD_ok {K : PySem.W.Frag} {as : List Addr} {st : Sto} {H : Hp} {d : D} {v : V} {t : Ty} (R : Rel K cad as st H) (r : VR K as H d v) (e : tyD st d = some t) : TyX K H v (.type t.name) := by
  have frL : ∀ {a : Addr} {xs : List V}, SqL K H a xs → TyX K H (.ref a) (.type "list") := fun {a xs} h => by
    rcases h with (h | ⟨o, h⟩) | ⟨o, its, n, hk, hc, _⟩
    · exact .base (.lst h)
    · exact .base (.frz h)
    · exact .kList hk hc
  cases r with
  | non => cases e; exact .base .non
  | bl b => cases e; exact .base (.bl b)
  | int i => cases e; exact .base (.int i)
  | str h => cases e; exact .base (.str _)
  | @tup a xs ds hs rs =>
    cases e
    rcases hs with (h | ⟨o, h⟩) | ⟨o, its, n, hk, hc, _⟩
    · exact .base (.tup h)
    · exact .fTuple h
    · exact .kTuple hk hc
  | @ref n a ha =>
    simp only [tyD] at e
    split at e
    · rename_i ds e1
      cases e
      obtain ⟨xs, q, _⟩ := R.ob n _ a e1 ha
      exact .base (.lst q)
    · rename_i ds e1
      cases e
      obtain ⟨xs, hs, _⟩ := R.rdL (ds := ds) (by unfold rdL; rw [e1]) ha
      exact frL hs
    · rename_i ds e1
      cases e
      obtain ⟨xs, q, _⟩ := R.ob n _ a e1 ha
      exact .base (.dK q)
    · cases e
def isiO (ns : List Ty) : D → Sto → Option (D × Sto) := fun x st => (tyD st x).map fun t => (.bl (ns.any fun n => t.isa n), st)
theorem kitAny_of {K : PySem.W.Frag} {t : Ty} : ∀ {ns : List Ty}, (∀ n ∈ ns, n ≠ .non) → PySem.W.kitAny K (.type t.name) (ns.map fun n => Value.type n.name) = some (ns.any fun n => t.isa n)
  | [], _ => kitAny_nil
  | n :: r, h => by
    refine kitAny_cons (kit_ty (Ty.kit t n (h n (List.mem_cons_self ..)))) (fun hb => ?_) (fun hb => ?_)
    · rw [kitAny_of fun z hz => h z (List.mem_cons_of_mem _ hz), List.any_cons, hb]
      rfl
    · rw [List.any_cons, hb]
      rfl
theorem ie_isi {n : Ty} {y : Str} {p2 : Pos} (hn : n ≠ .non) (hg : Gl X "isinstance") (hm : X.mg "isinstance" = none) (ha : IE X cad a f) (hb : PE X (.Name y p2) (tC (.ty n.name)))
    (hs : starEach [a, .Name y p2] X.env = (false, eval a X.env) :: starEach [.Name y p2] X.env := by rfl) (hs2 : starEach [.Name y p2] X.env = (false, eval (.Name y p2) X.env) :: starEach [] X.env := by rfl)
    (hpl : (backTo pos (starEach [.Name y p2] X.env)).any (·.1) = false := by rfl) : IE X cad (.Call (.Name "isinstance" p) [a, .Name y p2] [] pos) (eUn (isiO [n]) f) := by
  refine pe_weak (pe_callB call_isi hg hm (by decide +kernel) (pa_cons ha (pa_cons hb pa_nil hs2) hs) (by decide) (by decide) hs hpl) fun σ H Q => ?_
  rintro ⟨as, st, ρ, d, st', R, E, q, P⟩
  obtain ⟨⟨x, st1⟩, e1, q⟩ := bind_some q
  obtain ⟨t, e2, e3⟩ := map_some q
  obtain ⟨rfl, rfl⟩ := Prod.mk.inj e3
  refine tI_run R E e1 fun as1 H1 v x1 R1 E1 r1 => ⟨v, .ty n.name, _, _, t.isa n, rfl, .ty _, tyD_ok R1 r1 e2, kit_ty (Ty.kit t n hn), ?_⟩
  have h2 := (P.ext x1).now R1 (.bl _)
  simpa using h2
theorem ie_isi2 {n m : Ty} {y z : Str} {p2 p3 p4 : Pos} {k : Nat} (hn : n ≠ .non) (hm' : m ≠ .non) (hg : Gl X "isinstance") (hm : X.mg "isinstance" = none) (ha : IE X cad a f) (hb : PE X (.Name y p2) (tC (.ty n.name))) (hc : PE X (.Name z p3) (tC (.ty m.name)))
    (hs : starEach [a, .Tuple [.Name y p2, .Name z p3] k p4] X.env = (false, eval a X.env) :: starEach [.Tuple [.Name y p2, .Name z p3] k p4] X.env := by rfl)
    (hs2 : starEach [.Tuple [.Name y p2, .Name z p3] k p4] X.env = (false, eval (.Tuple [.Name y p2, .Name z p3] k p4) X.env) :: starEach [] X.env := by rfl)
    (hs3 : starEach [.Name y p2, .Name z p3] X.env = (false, eval (.Name y p2) X.env) :: starEach [.Name z p3] X.env := by rfl) (hs4 : starEach [.Name z p3] X.env = (false, eval (.Name z p3) X.env) :: starEach [] X.env := by rfl)
    (hpl : (backTo pos (starEach [.Tuple [.Name y p2, .Name z p3] k p4] X.env)).any (·.1) = false := by rfl) : IE X cad (.Call (.Name "isinstance" p) [a, .Tuple [.Name y p2, .Name z p3] k p4] [] pos) (eUn (isiO [n, m]) f) := by
  refine pe_weak (pe_callB call_isiT hg hm (by decide +kernel) (pa_cons ha (pa_cons (pe_tup (pa_cons hb (pa_cons hc pa_nil hs4) hs3)) pa_nil hs2) hs) (by decide) (by decide) hs hpl) fun σ H Q => ?_
  rintro ⟨as, st, ρ, d, st', R, E, q, P⟩
  obtain ⟨⟨x, st1⟩, e1, q⟩ := bind_some q
  obtain ⟨t, e2, e3⟩ := map_some q
  obtain ⟨rfl, rfl⟩ := Prod.mk.inj e3
  refine tI_run R E e1 fun as1 H1 v x1 R1 E1 r1 => ⟨(by show 2 ≤ sizeLine; decide), fun q hq => ?_⟩
  have x2 : Ext X.K as1 H1 as1 (upd H1 q (.tup [.ty n.name, .ty m.name])) := Ext.fresh hq
  refine ⟨v, q, _, _, [.type n.name, .type m.name], _, rfl, upd_same, .cons (.ty _) (.cons (.ty _) .nil), tyD_ok (R1.fresh hq) (r1.mono x2) e2, kitAny_of (ns := [n, m]) (fun z hz => ?_), ?_⟩
  · rcases List.mem_cons.mp hz with rfl | hz
    · exact hn
    · rcases List.mem_cons.mp hz with rfl | hz
      · exact hm'
      · cases hz
  · exact ((P.ext x1).ext x2).now (R1.fresh hq) (.bl _)
def eBM (chk : Sto → D → Bool) (o : D → FN) (f : ME) (g : MA) : ME := fun ρ st => (f ρ st).bind fun p => if chk p.2 p.1 = true then (g ρ p.2).bind fun q => o p.1 q.1 q.2 else none
def MtD (K : PySem.W.Frag) (cad : Cad) (r : V → List V → Hp → VK → Prop) (o : D → FN) : Prop :=
  ∀ (as : List Addr) (st : Sto) (H : Hp) (x : D) (v : V) (ds : List D) (vs : List V) (d : D) (st' : Sto) (Q : VK), Rel K cad as st H → VR K as H x v → VRs K as H ds vs → o x ds st = some (d, st') → Post K cad as H st' d Q → r v vs H Q
def isL (st : Sto) : D → Bool
  | .ref k => (rdL st k).isSome
  | _ => false
def isS (_ : Sto) : D → Bool
  | .str _ => true
  | _ => false
theorem isL_ty {K : PySem.W.Frag} {as : List Addr} {st : Sto} {H : Hp} {d : D} {v : V} (R : Rel K cad as st H) (r : VR K as H d v) (e : isL st d = true) : tyV K "list" v H := by
  cases r with
  | @ref n a ha =>
    obtain ⟨ds, e1⟩ := Option.isSome_iff_exists.mp e
    obtain ⟨xs, hs, _⟩ := R.rdL e1 ha
    exact .inl ⟨rfl, xs, hs⟩
  | _ => cases e
theorem isS_ty {K : PySem.W.Frag} {as : List Addr} {st : Sto} {H : Hp} {d : D} {v : V} (r : VR K as H d v) (e : isS st d = true) : tyV K "str" v H := by
  cases r with
  | str h => rfl
  | _ => cases e
theorem ie_bm {T id : String} {name : Str} {r : V → List V → Hp → VK → Prop} {chk : Sto → D → Bool} {o : D → FN} {cpos : Pos} (hty0 : ∀ as st H d v, Rel X.K cad as st H → VR X.K as H d v → chk st d = true → tyV X.K T v H) (hd : MtD X.K cad r o)
    (pa : PlainAttrs T) (slot : Slot T name id) (hty : typeOf (.builtin id) = pure (.type "method_descriptor")) (hm : MtR X id r) (ha : IE X cad a f) (hes : IA X cad (e :: es) g)
    (hbase : attributeBase a name X.env (eval a X.env) = eval a X.env := by rfl)
    (hfew : ((backTo cpos (starEach (e :: es) X.env)).all (fun x => !x.1) && (backToKw cpos (keywordEach [] X.env)).all (fun x => x.1.isSome)
      && decide ((e :: es).length + ([] : List Keyword).length + (if ([] : List Keyword).isEmpty then 0 else 1) < 30)) = true := by rfl)
    (hline : (apos.endLine == cpos.line) = true := by rfl) (hs : starEach (e :: es) X.env = (false, eval e X.env) :: starEach es X.env := by rfl) (hplain : (backTo cpos (starEach es X.env)).any (·.1) = false := by rfl) :
    IE X cad (.Call (.Attribute a name apos) (e :: es) [] cpos) (eBM chk o f g) := by
  refine pe_weak (pe_bm pa slot hty hm ha hes hbase hfew hline hs hplain) fun σ H Q => ?_
  rintro ⟨as, st, ρ, d, st', R, E, q, P⟩
  obtain ⟨⟨x, st1⟩, e1, q⟩ := bind_some q
  simp only at q
  split at q
  · rename_i hc
    obtain ⟨⟨ys, st2⟩, e2, q⟩ := bind_some q
    exact tI_run R E e1 fun as1 H1 v x1 R1 E1 r1 => ⟨hty0 _ _ _ _ _ R1 r1 hc, tIA_run R1 E1 e2 fun as2 H2 vs x2 R2 E2 r2 => hd as2 st2 H2 x v ys vs d st' Q R2 (r1.mono x2) r2 q (P.ext (x1.trans x2))⟩
  · cases q
theorem ie_bm0 {T id : String} {name : Str} {r : V → List V → Hp → VK → Prop} {chk : Sto → D → Bool} {o : D → FN} {cpos : Pos} (hty0 : ∀ as st H d v, Rel X.K cad as st H → VR X.K as H d v → chk st d = true → tyV X.K T v H) (hd : MtD X.K cad r o)
    (pa : PlainAttrs T) (slot : Slot T name id) (hty : typeOf (.builtin id) = pure (.type "method_descriptor")) (hm : MtR X id r) (ha : IE X cad a f)
    (hbase : attributeBase a name X.env (eval a X.env) = eval a X.env := by rfl) (hline : (apos.endLine == cpos.line) = true := by rfl) :
    IE X cad (.Call (.Attribute a name apos) [] [] cpos) (eBM chk o f aNil) := by
  refine pe_weak (pe_bm0 pa slot hty hm ha hbase hline) fun σ H Q => ?_
  rintro ⟨as, st, ρ, d, st', R, E, q, P⟩
  obtain ⟨⟨x, st1⟩, e1, q⟩ := bind_some q
  simp only at q
  split at q
  · rename_i hc
    obtain ⟨⟨ys, st2⟩, e2, q⟩ := bind_some q
    cases e2
    exact tI_run R E e1 fun as1 H1 v x1 R1 E1 r1 => ⟨hty0 _ _ _ _ _ R1 r1 hc, hd as1 st1 H1 x v [] [] d st' Q R1 r1 .nil q (P.ext x1)⟩
  · cases q
theorem Post.set {K : PySem.W.Frag} {as : List Addr} {st : Sto} {H : Hp} {n : Nat} {a : Addr} {ds ds' : List D} {xs : List V} {d : D} {v : V} {Q : VK} (P : Post K cad as H (st.set n (.lst ds')) d Q) (R : Rel K cad as st H) (e : myL st n = some ds) (ha : as[n]? = some a)
    (r : VRs K as H ds' xs) (rv : VR K as H d v) : Q v (upd H a (.lst xs)) := by
  have e1 := myL_at e
  obtain ⟨u, q, q1, q2⟩ := (R.ob n _ a e1 ha).there rfl
  have x : Ext K as H as (upd H a (.lst xs)) := ⟨⟨[], by simp⟩, fun b ys h => sqT_write q q1 q2 h, fun _ _ _ h => frz_write q q2 h⟩
  obtain ⟨R', _⟩ := R.write (u := .lst xs) (o' := .lst ds') e1 ha rfl rfl ⟨xs, upd_same, r.mono x⟩
  exact P as _ v x R' (rv.mono x)
def appM : D → FN := fun x ds st => match x, ds with
  | .ref k, [d] => match myL st k with
    | some xs => if xs.length < LIM then some (.non, st.set k (.lst (xs ++ [d]))) else none
    | none => none
  | _, _ => none
theorem md_app {K : PySem.W.Frag} : MtD K cad rAppend appM := by
  intro as st H x v ds vs d st' Q R r1 r2 e P
  cases r1 with
  | @ref n a ha =>
    match ds, r2, e with
    | [y], .cons r3 .nil, e =>
      simp only [appM] at e
      split at e
      · rename_i xs e1
        split at e
        · rename_i hl
          cases e
          obtain ⟨ws, q, rs⟩ := R.myL e1 ha
          refine ⟨a, ws, _, rfl, rfl, q, ?_, P.set R e1 ha (rs.append (.cons r3 .nil)) .non⟩
          rw [← rs.length]
          exact lim_lt hl
        · cases e
      · cases e
  | _ => cases e
theorem ie_append {cpos : Pos} (ha : IE X cad a f) (hes : IA X cad (e :: es) g) (hbase : attributeBase a "append" X.env (eval a X.env) = eval a X.env := by rfl)
    (hfew : ((backTo cpos (starEach (e :: es) X.env)).all (fun x => !x.1) && (backToKw cpos (keywordEach [] X.env)).all (fun x => x.1.isSome)
      && decide ((e :: es).length + ([] : List Keyword).length + (if ([] : List Keyword).isEmpty then 0 else 1) < 30)) = true := by rfl)
    (hline : (apos.endLine == cpos.line) = true := by rfl) (hs : starEach (e :: es) X.env = (false, eval e X.env) :: starEach es X.env := by rfl) (hplain : (backTo cpos (starEach es X.env)).any (·.1) = false := by rfl) :
    IE X cad (.Call (.Attribute a "append" apos) (e :: es) [] cpos) (eBM isL appM f g) :=
  ie_bm (fun _ _ _ _ _ R r e => isL_ty R r e) md_app PySem.F.plainAttrs_list PySem.F.slot_list_append PySem.F.type_list_append mt_append ha hes hbase hfew hline hs hplain
def strsO : List D → Option (List (List Nat))
  | [] => some []
  | .str l :: r => (strsO r).map fun s => l :: s
  | _ => none
theorem strsO_to {K : PySem.W.Frag} {as : List Addr} {H : Hp} : ∀ {ds : List D} {vs : List V} {ls : List (List Nat)}, VRs K as H ds vs → strsO ds = some ls → vs = (ls.map mkS).map V.str ∧ ∀ l ∈ ls, okS l = true
  | _, _, _, .nil, e => by
    cases e
    exact ⟨rfl, fun l h => by cases h⟩
  | d :: ds, v :: vs, bs, .cons r t, e => by
    cases r with
    | @str l hl =>
      obtain ⟨s, e1, rfl⟩ := map_some e
      obtain ⟨h1, h2⟩ := strsO_to t e1
      rw [h1]
      refine ⟨rfl, fun z hz => ?_⟩
      rcases List.mem_cons.mp hz with rfl | hz
      · exact hl
      · exact h2 z hz
    | _ => cases e
def joinD (s : List Nat) : List (List Nat) → List Nat := TL.joinL s
def joinM : D → FN := fun x ds st => match x, ds with
  | .str s, [.ref k] => ((rdL st k).bind strsO).bind fun ls => if (ls.map List.length).sum + ls.length * s.length ≤ 16000000 then some (.str (joinD s ls), st) else none
  | .str s, [.tup xs] => (strsO xs).bind fun ls => if (ls.map List.length).sum + ls.length * s.length ≤ 16000000 then some (.str (joinD s ls), st) else none
  | _, _ => none
theorem mem_joinL (s : List Nat) : ∀ (ls : List (List Nat)) (c : Nat), c ∈ TL.joinL s ls → c ∈ s ∨ ∃ l ∈ ls, c ∈ l
  | [], c, h => by cases h
  | [p], c, h => .inr ⟨p, List.mem_cons_self .., h⟩
  | p :: q :: r, c, h => by
    have h' : c ∈ p ++ (s ++ TL.joinL s (q :: r)) := h
    rcases List.mem_append.mp h' with h | h
    · exact .inr ⟨p, List.mem_cons_self .., h⟩
    · rcases List.mem_append.mp h with h | h
      · exact .inl h
      · rcases mem_joinL s (q :: r) c h with h | ⟨l, hl, hc⟩
        · exact .inl h
        · exact .inr ⟨l, List.mem_cons_of_mem _ hl, hc⟩
theorem join_to (s : List Nat) (ls : List (List Nat)) : Txt.join (mkS s) (ls.map mkS) = mkS (joinD s ls) := by
  rw [TL.join_eq, ← mkS_of (Str.join _ _)]
  congr 1
  have := TL.tl_join (mkS s) (ls.map mkS)
  rw [List.map_map] at this
  have e : (TL.tl ∘ mkS) = id := by
    funext l
    rfl
  rw [e, List.map_id] at this
  exact this
theorem md_join {K : PySem.W.Frag} : MtD K cad (fun x xs H Q => ∃ a p, ∃ ys : List Str, x = .str a ∧ xs = [.ref p] ∧ (SqL K H p (ys.map V.str) ∨ SqT K H p (ys.map V.str)) ∧ (ys.map (·.length)).sum + ys.length * a.length ≤ 16777216 ∧ Q (.str (Txt.join a ys)) H) joinM := by
  intro as st H x v ds vs d st' Q R r1 r2 e P
  have fin : ∀ {s : List Nat} {ls : List (List Nat)} {p : Addr}, okS s = true → (∀ l ∈ ls, okS l = true) → (ls.map List.length).sum + ls.length * s.length ≤ 16000000 → d = .str (joinD s ls) → st' = st → (SqL K H p ((ls.map mkS).map V.str) ∨ SqT K H p ((ls.map mkS).map V.str)) →
      ∃ a p', ∃ ys : List Str, V.str (mkS s) = .str a ∧ [V.ref p] = [.ref p'] ∧ (SqL K H p' (ys.map V.str) ∨ SqT K H p' (ys.map V.str)) ∧ (ys.map (·.length)).sum + ys.length * a.length ≤ 16777216 ∧ Q (.str (Txt.join a ys)) H := by
    intro s ls p h1 h2 h3 e1 e2 h4
    subst e1 e2
    refine ⟨mkS s, p, ls.map mkS, rfl, rfl, h4, ?_, ?_⟩
    · rw [List.map_map, List.length_map, mkS_len]
      have e : ((fun x : Str => x.length) ∘ mkS) = List.length := by
        funext l
        exact mkS_len l
      rw [e]
      omega
    · rw [join_to]
      exact P.now R (.str (okS_of fun c hc => by
        rcases mem_joinL s ls c hc with h | ⟨l, hl, hc⟩
        · exact okS_mem h1 c h
        · exact okS_mem (h2 l hl) c hc))
  cases r1 with
  | @str s hs =>
    cases r2 with
    | nil => cases e
    | cons r3 t =>
      cases t with
      | cons _ _ => cases r3 <;> cases e
      | nil =>
        cases r3 with
        | @ref n a ha =>
          obtain ⟨ls, e1, e2⟩ := bind_some e
          obtain ⟨xs, e3, e4⟩ := bind_some e1
          split at e2
          · rename_i hz
            cases e2
            obtain ⟨ws, q, rs⟩ := R.rdL e3 ha
            obtain ⟨h1, h2⟩ := strsO_to rs e4
            rw [h1] at q
            exact fin hs h2 hz rfl rfl (.inl q)
          · cases e2
        | @tup a ws xs q rs =>
          obtain ⟨ls, e1, e2⟩ := bind_some e
          split at e2
          · rename_i hz
            cases e2
            obtain ⟨h1, h2⟩ := strsO_to rs e1
            rw [h1] at q
            exact fin hs h2 hz rfl rfl (.inr q)
          · cases e2
        | _ => cases e
  | _ => cases e
theorem ie_join {cpos : Pos} (ha : IE X cad a f) (hes : IA X cad (e :: es) g) (hbase : attributeBase a "join" X.env (eval a X.env) = eval a X.env := by rfl)
    (hfew : ((backTo cpos (starEach (e :: es) X.env)).all (fun x => !x.1) && (backToKw cpos (keywordEach [] X.env)).all (fun x => x.1.isSome)
      && decide ((e :: es).length + ([] : List Keyword).length + (if ([] : List Keyword).isEmpty then 0 else 1) < 30)) = true := by rfl)
    (hline : (apos.endLine == cpos.line) = true := by rfl) (hs : starEach (e :: es) X.env = (false, eval e X.env) :: starEach es X.env := by rfl) (hplain : (backTo cpos (starEach es X.env)).any (·.1) = false := by rfl) :
    IE X cad (.Call (.Attribute a "join" apos) (e :: es) [] cpos) (eBM isS joinM f g) :=
  ie_bm (fun _ _ _ _ _ _ r e => isS_ty r e) md_join PySem.F.plainAttrs_str PySem.F.slot_str_join PySem.F.type_str_join mt_join ha hes hbase hfew hline hs hplain
end
end MP

set_option maxRecDepth 100000
namespace MP
open PySem PySem.Spec PyProof.Rows L2
inductive Fl where
  | nx
  | rt (d : D)
  | bk
  | ct
abbrev MS := Rho → Sto → Option (Fl × Rho × Sto)
def FlP (K : PySem.W.Frag) (as : List Addr) (H : Hp) (Dn : Ends) (σ : L2.St) : Fl → Prop
  | .nx => Dn.nx σ H
  | .rt d => ∀ v, VR K as H d v → Dn.rt v H
  | .bk => Dn.bk σ H
  | .ct => Dn.ct σ H
def PostS (K : PySem.W.Frag) (cad : Cad) (as : List Addr) (H : Hp) (fl : Fl) (ρ' : Rho) (st' : Sto) (Dn : Ends) : Prop :=
  ∀ (as' : List Addr) (H' : Hp) (σ' : L2.St), Ext K as H as' H' → Rel K cad as' st' H' → ER K as' H' ρ' σ' → FlP K as' H' Dn σ' fl
def tIS (K : PySem.W.Frag) (cad : Cad) (f : MS) : TS := fun Dn σ H => ∃ as st ρ fl ρ' st', Rel K cad as st H ∧ ER K as H ρ σ ∧ f ρ st = some (fl, ρ', st') ∧ PostS K cad as H fl ρ' st' Dn
def ISt (X : Cx) (cad : Cad) (s : Stmt) (f : MS) : Prop := PS X s (tIS X.K cad f)
def ISs (X : Cx) (cad : Cad) (ss : List Stmt) (f : MS) : Prop := PSs X ss (tIS X.K cad f)
theorem PostS.ext {K : PySem.W.Frag} {cad : Cad} {as as1 : List Addr} {H H1 : Hp} {fl : Fl} {ρ' : Rho} {st' : Sto} {Dn : Ends} (P : PostS K cad as H fl ρ' st' Dn) (x : Ext K as H as1 H1) : PostS K cad as1 H1 fl ρ' st' Dn := fun as' H' σ' y R E => P as' H' σ' (x.trans y) R E
theorem ps_weak {X : Cx} {s : Stmt} {t t' : TS} (h : PS X s t) (w : ∀ D σ H, t' D σ H → t D σ H) : PS X s t' := ⟨fun pins s σ H D I q => h.run pins s σ H D I (w D σ H q)⟩
theorem pss_weak {X : Cx} {s : List Stmt} {t t' : TS} (h : PSs X s t) (w : ∀ D σ H, t' D σ H → t D σ H) : PSs X s t' := ⟨fun pins s σ H D I q => h.run pins s σ H D I (w D σ H q)⟩
section
variable {X : Cx} {cad : Cad} {e a b c : Expr} {f h : ME} {t : MT} {g : MA} {u v : MS} {pos p : Pos} {s : Stmt} {ss rest : List Stmt}
theorem tIS_run {K : PySem.W.Frag} {as : List Addr} {st st' : Sto} {H : Hp} {ρ ρ' : Rho} {σ : L2.St} {fl : Fl} {Dn : Ends} (R : Rel K cad as st H) (E : ER K as H ρ σ) (e : u ρ st = some (fl, ρ', st'))
    (P : ∀ as' H' σ', Ext K as H as' H' → Rel K cad as' st' H' → ER K as' H' ρ' σ' → FlP K as' H' Dn σ' fl) : tIS K cad u Dn σ H := ⟨as, st, ρ, fl, ρ', st', R, E, e, P⟩
def sNext : MS := fun ρ st => some (.nx, ρ, st)
def sBreak : MS := fun ρ st => some (.bk, ρ, st)
def sCont : MS := fun ρ st => some (.ct, ρ, st)
def sSeq (u v : MS) : MS := fun ρ st => (u ρ st).bind fun q => match q.1 with
  | .nx => v q.2.1 q.2.2
  | _ => some q
theorem iss_nil : ISs X cad [] sNext := by
  refine pss_weak pss_nil fun Dn σ H => ?_
  rintro ⟨as, st, ρ, fl, ρ', st', R, E, q, P⟩
  cases q
  exact P as H σ .refl R E
theorem iss_one (h1 : ISt X cad s u) : ISs X cad [s] u := pss_one h1
theorem iss_cons (h1 : ISt X cad s u) (h2 : ISs X cad rest v) : ISs X cad (s :: rest) (sSeq u v) := by
  refine pss_weak (pss_cons h1 h2) fun Dn σ H => ?_
  rintro ⟨as, st, ρ, fl, ρ', st', R, E, q, P⟩
  obtain ⟨⟨fl1, ρ1, st1⟩, e1, q⟩ := bind_some q
  refine tIS_run R E e1 fun as1 H1 σ1 x1 R1 E1 => ?_
  cases fl1 with
  | nx => exact tIS_run R1 E1 q fun as2 H2 σ2 x2 R2 E2 => P as2 H2 σ2 (x1.trans x2) R2 E2
  | rt d => cases q; exact P as1 H1 σ1 x1 R1 E1
  | bk => cases q; exact P as1 H1 σ1 x1 R1 E1
  | ct => cases q; exact P as1 H1 σ1 x1 R1 E1
theorem is_pass : ISt X cad (.Pass pos) sNext := by
  refine ps_weak ps_pass fun Dn σ H => ?_
  rintro ⟨as, st, ρ, fl, ρ', st', R, E, q, P⟩
  cases q
  exact P as H σ .refl R E
theorem is_break : ISt X cad (.Break pos) sBreak := by
  refine ps_weak ps_break fun Dn σ H => ?_
  rintro ⟨as, st, ρ, fl, ρ', st', R, E, q, P⟩
  cases q
  exact P as H σ .refl R E
theorem is_cont : ISt X cad (.Continue pos) sCont := by
  refine ps_weak ps_continue fun Dn σ H => ?_
  rintro ⟨as, st, ρ, fl, ρ', st', R, E, q, P⟩
  cases q
  exact P as H σ .refl R E
theorem is_doc {x j p} : ISt X cad (.Expr (.Constant (.str x) j p) pos) sNext := by
  refine ps_weak ps_doc fun Dn σ H => ?_
  rintro ⟨as, st, ρ, fl, ρ', st', R, E, q, P⟩
  cases q
  exact P as H σ .refl R E
def sExpr (f : ME) : MS := fun ρ st => (f ρ st).map fun p => (.nx, ρ, p.2)
theorem is_expr (ha : IE X cad e f) (hs : swapsWith e none pos.line X.env = pure false := by rfl) : ISt X cad (.Expr e pos) (sExpr f) := by
  refine ps_weak (ps_expr ha hs) fun Dn σ H => ?_
  rintro ⟨as, st, ρ, fl, ρ', st', R, E, q, P⟩
  obtain ⟨⟨x, st1⟩, e1, e2⟩ := map_some q
  cases e2
  exact tI_run R E e1 fun as1 H1 v x1 R1 E1 r1 => P as1 H1 σ x1 R1 E1
def sRet (f : ME) : MS := fun ρ st => (f ρ st).map fun p => (.rt p.1, ρ, p.2)
theorem is_ret (ha : IE X cad e f) : ISt X cad (.Return (some e) pos) (sRet f) := by
  refine ps_weak (ps_ret ha) fun Dn σ H => ?_
  rintro ⟨as, st, ρ, fl, ρ', st', R, E, q, P⟩
  obtain ⟨⟨x, st1⟩, e1, e2⟩ := map_some q
  cases e2
  exact tI_run R E e1 fun as1 H1 v x1 R1 E1 r1 => P as1 H1 σ x1 R1 E1 v r1
def sRetN : MS := fun ρ st => some (.rt .non, ρ, st)
theorem is_retN : ISt X cad (.Return none pos) sRetN := by
  refine ps_weak ps_retN fun Dn σ H => ?_
  rintro ⟨as, st, ρ, fl, ρ', st', R, E, q, P⟩
  cases q
  exact P as H σ .refl R E .non .non
def sIf (t : MT) (u v : MS) : MS := fun ρ st => (t ρ st).bind fun p => if p.1 = true then u ρ p.2 else v ρ p.2
theorem is_if {x y : List Stmt} (hc : IT X cad c t) (ha : ISs X cad x u) (hb : ISs X cad y v) : ISt X cad (.If c x y pos) (sIf t u v) := by
  refine ps_weak (ps_if hc ha hb) fun Dn σ H => ?_
  rintro ⟨as, st, ρ, fl, ρ', st', R, E, q, P⟩
  obtain ⟨⟨k, st1⟩, e1, q⟩ := bind_some q
  refine tIT_run R E e1 fun as1 H1 x1 R1 E1 => ?_
  cases k with
  | true => exact iteT (tIS_run R1 E1 q fun as2 H2 σ2 x2 R2 E2 => P as2 H2 σ2 (x1.trans x2) R2 E2)
  | false => exact iteF (tIS_run R1 E1 q fun as2 H2 σ2 x2 R2 E2 => P as2 H2 σ2 (x1.trans x2) R2 E2)
def sSet (i : Nat) (f : ME) : MS := fun ρ st => (f ρ st).map fun p => (.nx, ρ.set i (some p.1), p.2)
theorem sSet_to {K : PySem.W.Frag} {i : Nat} {Dn : Ends} {σ : L2.St} {H : Hp} (hw : tIS K cad (sSet i f) Dn σ H) : tAsg (tI K cad f) (gName i) Dn σ H := by
  obtain ⟨as, st, ρ, fl, ρ', st', R, E, q, P⟩ := hw
  obtain ⟨⟨x, st1⟩, e1, e2⟩ := map_some q
  cases e2
  exact tI_run R E e1 fun as1 H1 v x1 R1 E1 r1 => P as1 H1 _ x1 R1 (E1.set r1)
theorem is_set {i : Nat} {x : Str} {p : Pos} (hN : X.N.Nodup) (hi : X.N[i]? = some x) (hx : Loc X.env.scope x) (ha : IE X cad e f) (hs : swapsWith e (some (.Name x p)) pos.line X.env = pure false := by rfl)
    (hf : X.fn x = true ∨ X.env.scope.names.lookup x = some .local := by first | exact .inl rfl | exact .inr rfl | assumption) : ISt X cad (.Assign [.Name x p] e pos) (sSet i f) :=
  ps_weak (ps_set hN hi hx ha hs hf) fun _ _ _ hw => sSet_to hw
def sPar2 (i j : Nat) (g : MA) : MS := fun ρ st => (g ρ st).bind fun p => match p.1 with
  | [x, y] => some (.nx, (ρ.set i (some x)).set j (some y), p.2)
  | _ => none
theorem is_par2 {i j : Nat} {x y : Str} {px py pt : Pos} {kt k2 : Nat} {pt2 : Pos} (hc : X.calm = true) (hN : X.N.Nodup) (hi : X.N[i]? = some x) (hj : X.N[j]? = some y) (hij : i ≠ j)
    (hx : X.env.scope.names.lookup x = some .local) (hy : X.env.scope.names.lookup y = some .local) (ha : IA X cad [a, b] g)
    (hw : swappedStores [.Tuple [.Name x px, .Name y py] kt pt] (.Tuple [a, b] k2 pt2) X.env = pure (some [x, y]))
    (hs : swapsWithSole [.Tuple [.Name x px, .Name y py] kt pt] (.Tuple [a, b] k2 pt2) pos.line X.env = pure false := by rfl) :
    ISt X cad (.Assign [.Tuple [.Name x px, .Name y py] kt pt] (.Tuple [a, b] k2 pt2) pos) (sPar2 i j g) := by
  refine ps_weak (ps_par hc hN hi hj hij hx hy ha hw hs) fun Dn σ H => ?_
  rintro ⟨as, st, ρ, fl, ρ', st', R, E, q, P⟩
  obtain ⟨⟨ys, st1⟩, e1, q⟩ := bind_some q
  refine tIA_run R E e1 fun as1 H1 vs x1 R1 E1 r1 => ?_
  match ys, r1, q with
  | [_, _], .cons (v := v1) q1 (.cons (v := v2) q2 .nil), q =>
    cases q
    exact ⟨v1, v2, rfl, P as1 H1 _ x1 R1 ((E1.set q1).set q2)⟩
def sPar3 (i j k : Nat) (g : MA) : MS := fun ρ st => (g ρ st).bind fun p => match p.1 with
  | [x, y, z] => some (.nx, ((ρ.set i (some x)).set j (some y)).set k (some z), p.2)
  | _ => none
theorem is_par3 {i j l : Nat} {d' : Expr} {x y z : Str} {px py pz pt : Pos} {kt k2 : Nat} {pt2 : Pos} (hc : X.calm = true) (hN : X.N.Nodup) (hi : X.N[i]? = some x) (hj : X.N[j]? = some y) (hl : X.N[l]? = some z) (hij : i ≠ j) (hil : i ≠ l) (hjl : j ≠ l)
    (hx : X.env.scope.names.lookup x = some .local) (hy : X.env.scope.names.lookup y = some .local) (hz : X.env.scope.names.lookup z = some .local) (ha : IA X cad [a, b, d'] g)
    (hw : swappedStores [.Tuple [.Name x px, .Name y py, .Name z pz] kt pt] (.Tuple [a, b, d'] k2 pt2) X.env = pure (some [x, y, z]))
    (hs : swapsWithSole [.Tuple [.Name x px, .Name y py, .Name z pz] kt pt] (.Tuple [a, b, d'] k2 pt2) pos.line X.env = pure false := by rfl) :
    ISt X cad (.Assign [.Tuple [.Name x px, .Name y py, .Name z pz] kt pt] (.Tuple [a, b, d'] k2 pt2) pos) (sPar3 i j l g) := by
  refine ps_weak (ps_par3 hc hN hi hj hl hij hil hjl hx hy hz ha hw hs) fun Dn σ H => ?_
  rintro ⟨as, st, ρ, fl, ρ', st', R, E, q, P⟩
  obtain ⟨⟨ys, st1⟩, e1, q⟩ := bind_some q
  refine tIA_run R E e1 fun as1 H1 vs x1 R1 E1 r1 => ?_
  match ys, r1, q with
  | [_, _, _], .cons (v := v1) q1 (.cons (v := v2) q2 (.cons (v := v3) q3 .nil)), q =>
    cases q
    exact ⟨v1, v2, v3, rfl, P as1 H1 _ x1 R1 (((E1.set q1).set q2).set q3)⟩
abbrev MG := D → Rho → Option Rho
def IG (X : Cx) (cad : Cad) (tg : Expr) (g : TG) (m : MG) : Prop := PG X tg g ∧ ∀ (as : List Addr) (H : Hp) (d : D) (v : V) (ρ ρ' : Rho) (σ : L2.St) (Q : L2.St → Hp → Prop), VR X.K as H d v → ER X.K as H ρ σ → m d ρ = some ρ' → (∀ σ', ER X.K as H ρ' σ' → Q σ' H) → g v σ H Q
def mName (i : Nat) : MG := fun d ρ => some (ρ.set i (some d))
theorem ig_name {i : Nat} {x : Str} (hN : X.N.Nodup) (hi : X.N[i]? = some x) (hx : Loc X.env.scope x) (hf : X.fn x = true ∨ X.env.scope.names.lookup x = some .local := by first | exact .inl rfl | exact .inr rfl | assumption) : IG X cad (.Name x pos) (gName i) (mName i) := by
  refine ⟨pg_name hN hi hx hf, fun as H d v ρ ρ' σ Q r E e P => ?_⟩
  cases e
  exact P _ (E.set r)
def IGs (X : Cx) (cad : Cad) (tgs : List Expr) (g : TGs) (m : List D → Rho → Option Rho) : Prop := PGs X tgs g ∧ ∀ (as : List Addr) (H : Hp) (ds : List D) (vs : List V) (ρ ρ' : Rho) (σ : L2.St) (Q : L2.St → Hp → Prop), VRs X.K as H ds vs → ER X.K as H ρ σ → m ds ρ = some ρ' → (∀ σ', ER X.K as H ρ' σ' → Q σ' H) → g vs σ H Q
def mNil : List D → Rho → Option Rho := fun ds ρ => match ds with
  | [] => some ρ
  | _ => none
def mCons (m : MG) (n : List D → Rho → Option Rho) : List D → Rho → Option Rho := fun ds ρ => match ds with
  | d :: r => (m d ρ).bind fun ρ1 => n r ρ1
  | [] => none
theorem igs_nil : IGs X cad [] gNil mNil := by
  refine ⟨pgs_nil, fun as H ds vs ρ ρ' σ Q r E e P => ?_⟩
  cases r with
  | nil =>
    cases e
    exact ⟨rfl, P σ E⟩
  | cons _ _ => cases e
def mTup (n : Nat) (m : List D → Rho → Option Rho) : MG := fun d ρ => match d with
  | .tup ds => if ds.length = n then m ds ρ else none
  | _ => none
def sAsg (f : ME) (m : MG) : MS := fun ρ st => (f ρ st).bind fun p => (m p.1 ρ).map fun ρ' => (.nx, ρ', p.2)
theorem sAsg_to {tg : TG} {m : MG} {K : PySem.W.Frag} (hg : ∀ (as : List Addr) (H : Hp) (d : D) (v : V) (ρ ρ' : Rho) (σ : L2.St) (Q : L2.St → Hp → Prop), VR K as H d v → ER K as H ρ σ → m d ρ = some ρ' → (∀ σ', ER K as H ρ' σ' → Q σ' H) → tg v σ H Q)
    {Dn : Ends} {σ : L2.St} {H : Hp} (hw : tIS K cad (sAsg f m) Dn σ H) : tAsg (tI K cad f) tg Dn σ H := by
  obtain ⟨as, st, ρ, fl, ρ', st', R, E, q, P⟩ := hw
  obtain ⟨⟨x, st1⟩, e1, q⟩ := bind_some q
  obtain ⟨ρ1, e2, e3⟩ := map_some q
  cases e3
  exact tI_run R E e1 fun as1 H1 v x1 R1 E1 r1 => hg as1 H1 x v ρ ρ' σ _ r1 E1 e2 fun σ' E' => P as1 H1 σ' x1 R1 E'
theorem igs_cons {tg : Expr} {tgs : List Expr} {g1 : TG} {g2 : TGs} {m : MG} {n : List D → Rho → Option Rho} (h1 : IG X cad tg g1 m) (h2 : IGs X cad tgs g2 n)
    (hs : (assignEach (tg :: tgs) X.env).map (·.2) = assign tg X.env :: (assignEach tgs X.env).map (·.2) := by rfl) : IGs X cad (tg :: tgs) (gCons g1 g2) (mCons m n) := by
  refine ⟨pgs_cons h1.1 h2.1 hs, fun as H ds vs ρ ρ' σ Q r E e P => ?_⟩
  cases r with
  | nil => cases e
  | @cons d ds v vs r t =>
    obtain ⟨ρ1, e1, e2⟩ := bind_some e
    exact ⟨v, vs, rfl, h1.2 as H d v ρ ρ1 σ _ r E e1 fun σ1 E1 => h2.2 as H ds vs ρ1 ρ' σ1 Q t E1 e2 P⟩
theorem ig_tup {tgs : List Expr} {k n : Nat} {g2 : TGs} {m : List D → Rho → Option Rho} (hc : X.calm = true) (h : IGs X cad tgs g2 m) (hn : (assignEach tgs X.env).length = n := by rfl) (hst : (assignEach tgs X.env).findIdx? (·.1) = none := by rfl) :
    IG X cad (.Tuple tgs k pos) (gTup X.K n g2) (mTup n m) := by
  refine ⟨pg_tup hc h.1 hn hst, fun as H d v ρ ρ' σ Q r E e P => ?_⟩
  cases r with
  | @tup a xs ds hs rs =>
    simp only [mTup] at e
    split at e
    · rename_i hl
      exact ⟨a, xs, rfl, hs, by rw [← rs.length]; exact hl, h.2 as H ds xs ρ ρ' σ Q rs E e P⟩
    · cases e
  | _ => cases e
theorem is_asg {tg : Expr} {g1 : TG} {m : MG} (ha : IE X cad e f) (hg : IG X cad tg g1 m) (hs : swapsWithSole [tg] e pos.line X.env = pure false := by rfl) (hw : swappedStores [tg] e X.env = pure none := by rfl)
    (h1 : (assignEach [tg] X.env).map (·.2) = [assign tg X.env] := by rfl) : ISt X cad (.Assign [tg] e pos) (sAsg f m) :=
  ps_weak (ps_asg ha hg.1 hs hw h1) fun _ _ _ hw => sAsg_to hg.2 hw
def putD (kvs : List (Key × D)) (k : Key) (d : D) : List (Key × D) := if (kvs.any fun kv => decide (kv.1 = k)) = true then kvs.map fun kv => if kv.1 = k then (kv.1, d) else kv else kvs ++ [(k, d)]
theorem KVR.any {K : PySem.W.Frag} {as : List Addr} {H : Hp} {kvs : List (Key × D)} {xs : List (Key × V)} (r : KVR K as H kvs xs) (k : Key) : (kvs.any fun kv => decide (kv.1 = k)) = xs.any fun kv => decide (kv.1 = k) := by
  induction r with
  | nil => rfl
  | @cons p q ps qs h _ ih =>
    rw [List.any_cons, List.any_cons, ih, h.1]
theorem KVR.put {K : PySem.W.Frag} {as : List Addr} {H : Hp} {kvs : List (Key × D)} {xs : List (Key × V)} (r : KVR K as H kvs xs) (k : Key) {d : D} {v : V} (rv : VR K as H d v) : KVR K as H (putD kvs k d) (putK xs k v) := by
  unfold putD putK
  rw [r.any k]
  split
  · rename_i hc
    clear hc
    induction r with
    | nil => exact .nil
    | @cons p q ps qs h _ ih =>
      rw [List.map_cons, List.map_cons]
      refine .cons ?_ ih
      rw [h.1]
      by_cases e : q.1 = k
      · rw [if_pos e, if_pos e]
        exact ⟨rfl, rv⟩
      · rw [if_neg e, if_neg e]
        exact h
  · rename_i hc
    clear hc
    induction r with
    | nil => exact .cons ⟨rfl, rv⟩ .nil
    | @cons p q ps qs h _ ih => exact .cons h ih
def setO (x y d : D) (st : Sto) : Option Sto := match x with
  | .ref k => match myL st k with
    | some ds => match y with
      | .int i => (ixN ds.length i).map fun j => st.set k (.lst (ds.set j d))
      | _ => none
    | none => match myD st k, keyOf y with
      | some kvs, some key => if kvs.length < LIM then some (st.set k (.dic (putD kvs key d))) else none
      | _, _ => none
  | _ => none
def rSetD : V → V → V → Hp → (Hp → Prop) → Prop := fun o i v H Q => ∃ a H4, o = .ref a ∧ DPut H a i v H4 ∧ Q H4
theorem set_dict (hu : X.A.units + 64 < cLine) : PSet X rSetD := by
  intro pins s σ H o i v ov iv u Q I ro ri rv h
  obtain ⟨a, H4, rfl, g, q⟩ := h
  obtain rfl : ov = Value.ref a := ro
  exact d_setItem (by omega) I g ri rv fun s' I' => ⟨H4, I', q⟩
theorem PSet.or {t t' : TSet} (h : PSet X t) (h' : PSet X t') : PSet X (fun o i v H Q => t o i v H Q ∨ t' o i v H Q) := by
  intro pins s σ H o i v ov iv u Q I ro ri rv q
  rcases q with q | q
  · exact h pins s σ H o i v ov iv u Q I ro ri rv q
  · exact h' pins s σ H o i v ov iv u Q I ro ri rv q
theorem setO_to {K : PySem.W.Frag} {as : List Addr} {st st' : Sto} {H : Hp} {x y d : D} {vx vy vd : V} {Q : Hp → Prop} (R : Rel K cad as st H) (r1 : VR K as H x vx) (r2 : VR K as H y vy) (r3 : VR K as H d vd) (e : setO x y d st = some st')
    (P : ∀ H', Ext K as H as H' → Rel K cad as st' H' → Q H') : rSetL vx vy vd H Q ∨ rSetD vx vy vd H Q := by
  cases r1 with
  | @ref n a ha =>
    simp only [setO] at e
    split at e
    · rename_i ds e0
      cases r2 with
      | int i =>
        obtain ⟨j, e1, rfl⟩ := map_some e
        obtain ⟨xs, q, rs⟩ := R.myL e0 ha
        have e2 := myL_at e0
        obtain ⟨u, q0, q1, q2⟩ := (R.ob n _ a e2 ha).there rfl
        have x : Ext K as H as (upd H a (.lst (xs.set j vd))) := ⟨⟨[], by simp⟩, fun b ys h => sqT_write q0 q1 q2 h, fun _ _ _ h => frz_write q0 q2 h⟩
        obtain ⟨R', _⟩ := R.write (u := .lst (xs.set j vd)) (o' := .lst (ds.set j d)) e2 ha rfl rfl ⟨_, upd_same, (rs.set r3 j).mono x⟩
        exact .inl ⟨a, xs, i, j, rfl, rfl, q, by rw [← rs.length]; exact e1, P _ x R'⟩
      | _ => cases e
    · split at e
      · rename_i kvs key e3 e4
        split at e
        · rename_i hl
          cases e
          obtain ⟨xs, q, rs⟩ := R.myD e3 ha
          have e2 := myD_at e3
          obtain ⟨u, q0, q1, q2⟩ := (R.ob n _ a e2 ha).there rfl
          have x : Ext K as H as (upd H a (.dK (putK xs key vd))) := ⟨⟨[], by simp⟩, fun b ys h => sqT_write q0 q1 q2 h, fun _ _ _ h => frz_write q0 q2 h⟩
          obtain ⟨R', _⟩ := R.write (u := .dK (putK xs key vd)) (o' := .dic (putD kvs key d)) e2 ha rfl rfl ⟨_, upd_same, Paired.map2 (fun _ _ z => ⟨z.1, z.2.mono x⟩) (rs.put key r3)⟩
          refine .inr ⟨a, _, rfl, ?_, P _ x R'⟩
          rw [keyOf_is r2 e4]
          exact DPut.k q (by rw [← rs.length]; exact lim_lt hl)
        · cases e
      · cases e
  | _ => cases e
def sPut (fo fi f : ME) : MS := fun ρ st => (f ρ st).bind fun p => (fo ρ p.2).bind fun x => (fi ρ x.2).bind fun y => (setO x.1 y.1 p.1 y.2).map fun st' => (.nx, ρ, st')
theorem is_put {o i : Expr} {fo fi : ME} {p' : Pos} (hu : X.A.units + 64 < cLine) (ho : IE X cad o fo) (hi : IE X cad i fi) (ha : IE X cad e f)
    (hb : ∀ v, assign (.Subscript o i p') X.env v = (do
      let ov ← holding [v] (eval o X.env)
      let iv ← holding [v, ov] (eval i X.env)
      standAt p'
      holding [v, ov, iv] (setItem ov iv v)
      release [v, ov, iv] []) := by intro _; rfl)
    (hs : swapsWithSole [.Subscript o i p'] e pos.line X.env = pure false := by rfl) (hw : swappedStores [.Subscript o i p'] e X.env = pure none := by rfl)
    (h1 : (assignEach [.Subscript o i p'] X.env).map (·.2) = [assign (.Subscript o i p') X.env] := by rfl) :
    ISt X cad (.Assign [.Subscript o i p'] e pos) (sPut fo fi f) := by
  refine ps_weak (ps_asg ha (pg_sub ho hi (PSet.or set_list (set_dict hu)) hb) hs hw h1) fun Dn σ H => ?_
  rintro ⟨as, st, ρ, fl, ρ', st', R, E, q, P⟩
  obtain ⟨⟨d, st1⟩, e1, q⟩ := bind_some q
  obtain ⟨⟨x, st2⟩, e2, q⟩ := bind_some q
  obtain ⟨⟨y, st3⟩, e3, q⟩ := bind_some q
  obtain ⟨st4, e4, e5⟩ := map_some q
  cases e5
  exact tI_run R E e1 fun as1 H1 v x1 R1 E1 r1 => tI_run R1 E1 e2 fun as2 H2 w x2 R2 E2 r2 => tI_run R2 E2 e3 fun as3 H3 u x3 R3 E3 r3 =>
    setO_to R3 (r2.mono x3) r3 (r1.mono (x2.trans x3)) e4 fun H4 x4 R4 => P as3 H4 σ (x1.trans (x2.trans (x3.trans x4))) R4 (E3.mono x4)
end
end MP

set_option maxRecDepth 100000
namespace MP
open PySem PySem.Spec PyProof.Rows L2
abbrev MI := Rho → Sto → Option ((List D × (Sto → Prop)) × Sto)
structure ItD (K : PySem.W.Frag) (cad : Cad) (as : List Addr) (H : Hp) (J : It) (ds : List D) (chk : Sto → Prop) : Prop where
  go : ∀ (as' : List Addr) (st : Sto) (H' : Hp) (i : Nat) (d : D), Ext K as H as' H' → Rel K cad as' st H' → chk st → ds[i]? = some d → J.go i H' ∧ ∀ x H2, J.yld i H' x H2 → Ext K as' H' as' H2 ∧ Rel K cad as' st H2 ∧ VR K as' H2 d x
  stop : ∀ (as' : List Addr) (st : Sto) (H' : Hp), Ext K as H as' H' → Rel K cad as' st H' → chk st → J.stop ds.length H'
def tII (K : PySem.W.Frag) (cad : Cad) (fi : MI) (σ : L2.St) (H : Hp) (R : It → Hp → Prop) : Prop :=
  ∃ as st ρ ds chk st', Rel K cad as st H ∧ ER K as H ρ σ ∧ fi ρ st = some ((ds, chk), st') ∧ ∀ as' H' J, Ext K as H as' H' → Rel K cad as' st' H' → ItD K cad as' H' J ds chk → R J H'
def II (X : Cx) (cad : Cad) (tg it : Expr) (wi : TI) (fi : MI) : Prop := PI X tg it wi ∧ ∀ σ H R, tII X.K cad fi σ H R → wi σ H R
theorem PI.or {X : Cx} {tg it : Expr} {w1 w2 : TI} (h1 : PI X tg it w1) (h2 : PI X tg it w2) : PI X tg it (fun σ H R => w1 σ H R ∨ w2 σ H R) := ⟨fun pins s σ H R I q => by
  rcases q with q | q
  · exact h1.run pins s σ H R I q
  · exact h2.run pins s σ H R I q⟩
section
variable {X : Cx} {cad : Cad} {tg e a b c : Expr} {f : ME} {g : MA} {t : MT} {u : MS} {pos p : Pos}
def iV (f : ME) : MI := fun ρ st => (f ρ st).bind fun p => match p.1 with
  | .ref k => (rdL p.2 k).map fun ds => ((ds, fun s => rdL s k = some ds), p.2)
  | .tup ds => some ((ds, fun _ => True), p.2)
  | .str l => some ((l.map fun c => D.str [c], fun _ => True), p.2)
  | _ => none
def wiV (K : PySem.W.Frag) (te : TE) : TI := fun σ H R => iList K te σ H R ∨ iTup K te σ H R ∨ iStr te σ H R
theorem itd_list {K : PySem.W.Frag} {as : List Addr} {H : Hp} {k : Nat} {a : Addr} {ds : List D} (ha : as[k]? = some a) : ItD K cad as H (Itl K a) ds (fun s => rdL s k = some ds) where
  go := fun as' st H' i d x R hc hd => by
    obtain ⟨xs, hs, rs⟩ := R.rdL hc (x.at ha)
    obtain ⟨v, hv, rv⟩ := rs.get hd
    refine ⟨⟨xs, v, hs, hv⟩, fun y H2 hy => ?_⟩
    obtain ⟨rfl, hy⟩ := hy
    have e := (hy xs hs).symm.trans hv
    cases e
    exact ⟨.refl, R, rv⟩
  stop := fun as' st H' x R hc => by
    obtain ⟨xs, hs, rs⟩ := R.rdL hc (x.at ha)
    exact ⟨xs, hs, by rw [rs.length]; exact Nat.le_refl _⟩
theorem itd_tup {K : PySem.W.Frag} {as : List Addr} {H : Hp} {a : Addr} {xs : List V} {ds : List D} (hs : SqT K H a xs) (rs : VRs K as H ds xs) : ItD K cad as H (Itt K a) ds (fun _ => True) where
  go := fun as' st H' i d x R hc hd => by
    obtain ⟨v, hv, rv⟩ := rs.get hd
    refine ⟨⟨xs, v, x.tup _ _ hs, hv⟩, fun y H2 hy => ?_⟩
    obtain ⟨rfl, hy⟩ := hy
    have e := (hy xs (x.tup _ _ hs)).symm.trans hv
    cases e
    exact ⟨.refl, R, rv.mono x⟩
  stop := fun as' st H' x R hc => ⟨xs, x.tup _ _ hs, by rw [rs.length]; exact Nat.le_refl _⟩
theorem itd_str {K : PySem.W.Frag} {as : List Addr} {H : Hp} {l : List Nat} (hl : okS l = true) : ItD K cad as H (Its (mkS l)) (l.map fun c => D.str [c]) (fun _ => True) where
  go := fun as' st H' i d x R hc hd => by
    rw [List.getElem?_map] at hd
    obtain ⟨c, e1, rfl⟩ := map_some hd
    obtain ⟨h1, h2⟩ := List.getElem?_eq_some_iff.mp e1
    have hi : i < (mkS l).cps.size := by
      show i < l.toArray.size
      rw [List.size_toArray]
      exact h1
    refine ⟨hi, fun y H2 hy => ?_⟩
    obtain ⟨rfl, c', e2, rfl⟩ := hy
    have e3 : (mkS l).cps[i]? = some c := by
      show l.toArray[i]? = some c
      rw [List.getElem?_toArray]
      exact e1
    rw [e3] at e2
    cases e2
    refine ⟨.refl, R, VR.str (l := [c]) (okS_sub hl fun z hz => ?_)⟩
    have : z = c := by simpa using hz
    subst this
    exact List.mem_of_getElem? e1
  stop := fun as' st H' x R hc => by
    show (mkS l).cps.size ≤ _
    show l.toArray.size ≤ _
    rw [List.size_toArray, List.length_map]
    exact Nat.le_refl _
theorem ii_v (ha : IE X cad e f) : II X cad tg e (wiV X.K (tI X.K cad f)) (iV f) := by
  refine ⟨PI.or (pi_list ha) (PI.or (pi_tup ha) (pi_str ha)), fun σ H R => ?_⟩
  rintro ⟨as, st, ρ, ds, chk, st', Rl, E, q, P⟩
  obtain ⟨⟨x, st1⟩, e1, q⟩ := bind_some q
  have go : ∀ {Q : VK}, (∀ as' H' v, Ext X.K as H as' H' → Rel X.K cad as' st1 H' → ER X.K as' H' ρ σ → VR X.K as' H' x v → Q v H') → tI X.K cad f σ H Q := fun h => tI_run Rl E e1 h
  cases x with
  | ref k =>
    obtain ⟨es, e2, e3⟩ := map_some q
    cases e3
    refine .inl (go fun as1 H1 v x1 R1 E1 r1 => ?_)
    cases r1 with
    | @ref n a ha =>
      obtain ⟨xs, hs, rs⟩ := R1.rdL e2 ha
      exact ⟨a, rfl, ⟨xs, hs⟩, P as1 H1 _ x1 R1 (itd_list ha)⟩
  | tup es =>
    cases q
    refine .inr (.inl (go fun as1 H1 v x1 R1 E1 r1 => ?_))
    cases r1 with
    | @tup a xs _ hs rs => exact ⟨a, rfl, ⟨xs, hs⟩, P as1 H1 _ x1 R1 (itd_tup hs rs)⟩
  | str l =>
    cases q
    refine .inr (.inr (go fun as1 H1 v x1 R1 E1 r1 => ?_))
    cases r1 with
    | str hl => exact ⟨_, rfl, P as1 H1 _ x1 R1 (itd_str hl)⟩
  | _ => cases q
def rngD (lo : Int) (n : Nat) : List D := (List.range n).map fun i => .int (lo + (i : Nat))
theorem itd_rng {K : PySem.W.Frag} {as : List Addr} {H : Hp} {lo : Int} {n : Nat} : ItD K cad as H (Itr lo n) (rngD lo n) (fun _ => True) where
  go := fun as' st H' i d x R hc hd => by
    unfold rngD at hd
    rw [List.getElem?_map] at hd
    obtain ⟨c, e1, rfl⟩ := map_some hd
    obtain ⟨h1, h2⟩ := List.getElem?_eq_some_iff.mp e1
    rw [List.length_range] at h1
    rw [List.getElem_range] at h2
    subst h2
    refine ⟨h1, fun y H2 hy => ?_⟩
    obtain ⟨rfl, rfl⟩ := hy
    exact ⟨.refl, R, .int _⟩
  stop := fun as' st H' x R hc => by
    show n ≤ (rngD lo n).length
    unfold rngD
    rw [List.length_map, List.length_range]
    exact Nat.le_refl _
def iR1 (g : MA) : MI := fun ρ st => (g ρ st).bind fun p => match p.1 with
  | [.int n] => if -(LIM : Int) ≤ n ∧ n ≤ (LIM : Nat) then some ((rngD 0 n.toNat, fun _ => True), p.2) else none
  | _ => none
theorem ii_r1 (hg : Gl X "range") (hm : X.mg "range" = none) (ha : IA X cad [a] g) (hs : starEach [a] X.env = [(false, eval a X.env)] := by rfl) : II X cad tg (.Call (.Name "range" p) [a] [] pos) (iRng1 (tIA X.K cad g)) (iR1 g) := by
  refine ⟨pi_range1 hg hm ha hs, fun σ H R => ?_⟩
  rintro ⟨as, st, ρ, ds, chk, st', Rl, E, q, P⟩
  obtain ⟨⟨x, st1⟩, e1, q⟩ := bind_some q
  refine tIA_run Rl E e1 fun as1 H1 vs x1 R1 E1 r1 => ?_
  cases r1 with
  | nil => cases q
  | cons r2 t =>
    cases t with
    | cons _ _ => cases r2 <;> cases q
    | nil =>
      cases r2 with
      | int n =>
        simp only at q
        split at q
        · rename_i h
          cases q
          have hL : LIM = 16000000 := rfl
          rw [hL] at h
          exact ⟨n, rfl, by omega, by omega, P as1 H1 _ x1 R1 itd_rng⟩
        · cases q
      | _ => cases q
def iR2 (g : MA) : MI := fun ρ st => (g ρ st).bind fun p => match p.1 with
  | [.int i, .int j] => if -(LIM : Int) ≤ i ∧ i ≤ (LIM : Nat) ∧ -(LIM : Int) ≤ j ∧ j ≤ (LIM : Nat) then some ((rngD i (j - i).toNat, fun _ => True), p.2) else none
  | _ => none
theorem ii_r2 (hg : Gl X "range") (hm : X.mg "range" = none) (ha : IA X cad [a, b] g) (hs : starEach [a, b] X.env = [(false, eval a X.env), (false, eval b X.env)] := by rfl) (hs2 : starEach [b] X.env = [(false, eval b X.env)] := by rfl) :
    II X cad tg (.Call (.Name "range" p) [a, b] [] pos) (iRng2 (tIA X.K cad g)) (iR2 g) := by
  refine ⟨pi_range2 hg hm ha hs hs2, fun σ H R => ?_⟩
  rintro ⟨as, st, ρ, ds, chk, st', Rl, E, q, P⟩
  obtain ⟨⟨x, st1⟩, e1, q⟩ := bind_some q
  refine tIA_run Rl E e1 fun as1 H1 vs x1 R1 E1 r1 => ?_
  cases r1 with
  | nil => cases q
  | cons r2 t =>
    cases t with
    | nil => cases r2 <;> cases q
    | cons r3 t =>
      cases t with
      | cons _ _ => cases r2 <;> cases r3 <;> cases q
      | nil =>
        cases r2 with
        | int i =>
          cases r3 with
          | int j =>
            simp only at q
            split at q
            · rename_i h
              cases q
              have hL : LIM = 16000000 := rfl
              rw [hL] at h
              exact ⟨i, j, rfl, ⟨by omega, by omega, by omega, by omega⟩, P as1 H1 _ x1 R1 itd_rng⟩
            · cases q
          | _ => cases q
        | _ => cases r3 <;> cases q
def enumD (ds : List D) : List D := (List.range ds.length).map fun i => .tup [.int (i : Nat), ds.getD i .non]
theorem itd_enum {K : PySem.W.Frag} {as : List Addr} {H : Hp} {k : Nat} {a : Addr} {ds : List D} (ha : as[k]? = some a) : ItD K cad as H (Ite K a) (enumD ds) (fun s => rdL s k = some ds) where
  go := fun as' st H' i d x R hc hd => by
    unfold enumD at hd
    rw [List.getElem?_map] at hd
    obtain ⟨c, e1, rfl⟩ := map_some hd
    obtain ⟨h1, h2⟩ := List.getElem?_eq_some_iff.mp e1
    rw [List.length_range] at h1
    rw [List.getElem_range] at h2
    subst h2
    obtain ⟨xs, hs, rs⟩ := R.rdL hc (x.at ha)
    have e3 : ds[i]? = some (ds.getD i .non) := by
      rw [List.getD_eq_getElem?_getD, List.getElem?_eq_getElem h1]
      rfl
    obtain ⟨v, hv, rv⟩ := rs.get e3
    refine ⟨⟨xs, v, hs, hv⟩, fun y H2 hy => ?_⟩
    obtain ⟨T, z, rfl, hT, rfl, hz⟩ := hy
    have e4 := (hz xs hs).symm.trans hv
    cases e4
    exact ⟨Ext.fresh hT, R.fresh hT, .tup (.inl (.inl upd_same)) (.cons (.int _) (.cons (rv.mono (Ext.fresh hT)) .nil))⟩
  stop := fun as' st H' x R hc => by
    obtain ⟨xs, hs, rs⟩ := R.rdL hc (x.at ha)
    refine ⟨xs, hs, ?_⟩
    unfold enumD
    rw [List.length_map, List.length_range, rs.length]
    exact Nat.le_refl _
def iEn (g : MA) : MI := fun ρ st => (g ρ st).bind fun p => match p.1 with
  | [.ref k] => (rdL p.2 k).map fun ds => ((enumD ds, fun s => rdL s k = some ds), p.2)
  | _ => none
theorem ii_enum {elts : List Expr} {kk : Nat} {tpos : Pos} (hg : Gl X "enumerate") (hm : X.mg "enumerate" = none) (ha : IA X cad [a] g) (hs : starEach [a] X.env = [(false, eval a X.env)] := by rfl) :
    II X cad (.Tuple elts kk tpos) (.Call (.Name "enumerate" p) [a] [] pos) (iEnum X.K (tIA X.K cad g)) (iEn g) := by
  refine ⟨pi_enum hg hm ha hs, fun σ H R => ?_⟩
  rintro ⟨as, st, ρ, ds, chk, st', Rl, E, q, P⟩
  obtain ⟨⟨x, st1⟩, e1, q⟩ := bind_some q
  refine tIA_run Rl E e1 fun as1 H1 vs x1 R1 E1 r1 => ?_
  cases r1 with
  | nil => cases q
  | cons r2 t =>
    cases t with
    | cons _ _ => cases r2 <;> cases q
    | nil =>
      cases r2 with
      | @ref n a ha =>
        obtain ⟨es, e2, e3⟩ := map_some q
        cases e3
        obtain ⟨xs, hs, rs⟩ := R1.rdL e2 ha
        exact ⟨a, xs, rfl, hs, P as1 H1 _ x1 R1 (itd_enum ha)⟩
      | _ => cases q
def zipD (ds es : List D) : List D := (ds.zip es).map fun p => .tup [p.1, p.2]
theorem itd_zip {K : PySem.W.Frag} {as : List Addr} {H : Hp} {k n : Nat} {a b : Addr} {ds es : List D} (ha : as[k]? = some a) (hb : as[n]? = some b) : ItD K cad as H (Itz K a b) (zipD ds es) (fun s => rdL s k = some ds ∧ rdL s n = some es) where
  go := fun as' st H' i d x R hc hd => by
    unfold zipD at hd
    rw [List.getElem?_map] at hd
    obtain ⟨c, e1, rfl⟩ := map_some hd
    obtain ⟨h1, h2⟩ := List.getElem?_zip_eq_some.mp e1
    obtain ⟨xs, hs, rs⟩ := R.rdL hc.1 (x.at ha)
    obtain ⟨ys, hs2, rs2⟩ := R.rdL hc.2 (x.at hb)
    obtain ⟨v, hv, rv⟩ := rs.get h1
    obtain ⟨w, hw, rw'⟩ := rs2.get h2
    refine ⟨⟨xs, ys, v, w, hs, hs2, hv, hw⟩, fun y H2 hy => ?_⟩
    obtain ⟨T, z1, z2, rfl, hT, rfl, hz, hz2⟩ := hy
    have e4 := (hz xs hs).symm.trans hv
    cases e4
    have e5 := (hz2 ys hs2).symm.trans hw
    cases e5
    exact ⟨Ext.fresh hT, R.fresh hT, .tup (.inl (.inl upd_same)) (.cons (rv.mono (Ext.fresh hT)) (.cons (rw'.mono (Ext.fresh hT)) .nil))⟩
  stop := fun as' st H' x R hc => by
    obtain ⟨xs, hs, rs⟩ := R.rdL hc.1 (x.at ha)
    obtain ⟨ys, hs2, rs2⟩ := R.rdL hc.2 (x.at hb)
    refine ⟨xs, ys, hs, hs2, ?_⟩
    unfold zipD
    rw [List.length_map, List.length_zip, ← rs.length, ← rs2.length]
    omega
def iZp (g : MA) : MI := fun ρ st => (g ρ st).bind fun p => match p.1 with
  | [.ref k, .ref n] => match rdL p.2 k, rdL p.2 n with
    | some ds, some es => some ((zipD ds es, fun s => rdL s k = some ds ∧ rdL s n = some es), p.2)
    | _, _ => none
  | _ => none
theorem ii_zip {elts : List Expr} {kk : Nat} {tpos : Pos} (hg : Gl X "zip") (hm : X.mg "zip" = none) (ha : IA X cad [a, b] g) (hs : starEach [a, b] X.env = (false, eval a X.env) :: starEach [b] X.env := by rfl) (hpl : (backTo pos (starEach [b] X.env)).any (·.1) = false := by rfl) :
    II X cad (.Tuple elts kk tpos) (.Call (.Name "zip" p) [a, b] [] pos) (iZip X.K (tIA X.K cad g)) (iZp g) := by
  refine ⟨pi_zip hg hm ha hs hpl, fun σ H R => ?_⟩
  rintro ⟨as, st, ρ, ds, chk, st', Rl, E, q, P⟩
  obtain ⟨⟨x, st1⟩, e1, q⟩ := bind_some q
  refine tIA_run Rl E e1 fun as1 H1 vs x1 R1 E1 r1 => ?_
  cases r1 with
  | nil => cases q
  | cons r2 t =>
    cases t with
    | nil => cases r2 <;> cases q
    | cons r3 t =>
      cases t with
      | cons _ _ => cases r2 <;> cases r3 <;> cases q
      | nil =>
        cases r2 with
        | @ref n a ha =>
          cases r3 with
          | @ref m b hb =>
            simp only at q
            split at q
            · rename_i ds' es' e2 e3
              cases q
              obtain ⟨xs, hs, rs⟩ := R1.rdL e2 ha
              obtain ⟨ys, hs2, rs2⟩ := R1.rdL e3 hb
              exact ⟨a, b, xs, ys, rfl, hs, hs2, P as1 H1 _ x1 R1 (itd_zip ha hb)⟩
            · cases q
          | _ => cases q
        | _ => cases r3 <;> cases q
open Classical in
noncomputable def loopF (chk : Sto → Prop) (m : MG) (body : MS) : List D → MS
  | [] => fun ρ st => if chk st then some (.nx, ρ, st) else none
  | d :: r => fun ρ st => if chk st then (m d ρ).bind fun ρ1 => (body ρ1 st).bind fun q => match q.1 with
      | .nx => loopF chk m body r q.2.1 q.2.2
      | .ct => loopF chk m body r q.2.1 q.2.2
      | .bk => some (.nx, q.2.1, q.2.2)
      | .rt d => some (.rt d, q.2.1, q.2.2)
    else none
noncomputable def sFor (fi : MI) (m : MG) (body : MS) : MS := fun ρ st => (fi ρ st).bind fun p => loopF p.1.2 m body p.1.1 ρ p.2
theorem for_to {K : PySem.W.Frag} {wi : TI} {fi : MI} {g1 : TG} {m : MG} {u : MS} (hi : ∀ σ H R, tII K cad fi σ H R → wi σ H R)
    (hg : ∀ (as : List Addr) (H : Hp) (d : D) (v : V) (ρ ρ' : Rho) (σ : L2.St) (Q : L2.St → Hp → Prop), VR K as H d v → ER K as H ρ σ → m d ρ = some ρ' → (∀ σ', ER K as H ρ' σ' → Q σ' H) → g1 v σ H Q)
    {Dn : Ends} {σ : L2.St} {H : Hp} (hw : tIS K cad (sFor fi m u) Dn σ H) : tFor wi g1 (tIS K cad u) Dn σ H := by
  obtain ⟨as, st, ρ, fl, ρ', st', R, E, q, P⟩ := hw
  obtain ⟨⟨⟨ds, chk⟩, st1⟩, e1, q⟩ := bind_some q
  refine hi σ H _ ⟨as, st, ρ, ds, chk, st1, R, E, e1, fun as1 H1 J x1 R1 D1 => ?_⟩
  refine ⟨fun i n σ2 H2 => ∃ as2 ρ2 st2, n = ds.length - i ∧ i ≤ ds.length ∧ Ext K as1 H1 as2 H2 ∧ Rel K cad as2 st2 H2 ∧ ER K as2 H2 ρ2 σ2 ∧ loopF chk m u (ds.drop i) ρ2 st2 = some (fl, ρ', st'),
    ⟨ds.length, as1, ρ, st1, rfl, Nat.zero_le _, .refl, R1, E.mono x1, q⟩, ?_⟩
  rintro i n σ2 H2 ⟨as2, ρ2, st2, rfl, hi2, x2, R2, E2, q2⟩
  by_cases hlt : i < ds.length
  · rw [List.drop_eq_getElem_cons hlt] at q2
    simp only [loopF] at q2
    split at q2
    · rename_i hc
      obtain ⟨ρ3, e3, q2⟩ := bind_some q2
      obtain ⟨⟨fl4, ρ4, st4⟩, e4, q2⟩ := bind_some q2
      obtain ⟨g1', g2'⟩ := D1.go as2 st2 H2 i ds[i] x2 R2 hc (List.getElem?_eq_getElem hlt)
      refine .inr ⟨g1', fun σ5 H5 => ∃ as5 ρ5 st5, Ext K as1 H1 as5 H5 ∧ Rel K cad as5 st5 H5 ∧ ER K as5 H5 ρ5 σ5 ∧ loopF chk m u (ds.drop (i + 1)) ρ5 st5 = some (fl, ρ', st'), ?_, ?_⟩
      · rintro σ5 H5 ⟨as5, ρ5, st5, x5, R5, E5, q5⟩
        exact ⟨ds.length - (i + 1), by omega, as5, ρ5, st5, rfl, hlt, x5, R5, E5, q5⟩
      · intro x H3 hy
        obtain ⟨x3, R3, rv⟩ := g2' x H3 hy
        refine hg as2 H3 ds[i] x ρ2 ρ3 σ2 _ rv (E2.mono x3) e3 fun σ3 E3 => ?_
        refine tIS_run R3 E3 e4 fun as4 H4 σ4 x4 R4 E4 => ?_
        cases fl4 with
        | nx => exact ⟨as4, ρ4, st4, x2.trans (x3.trans x4), R4, E4, q2⟩
        | ct => exact ⟨as4, ρ4, st4, x2.trans (x3.trans x4), R4, E4, q2⟩
        | bk =>
          cases q2
          exact P as4 H4 σ4 (x1.trans (x2.trans (x3.trans x4))) R4 E4
        | rt d =>
          cases q2
          exact P as4 H4 σ4 (x1.trans (x2.trans (x3.trans x4))) R4 E4
    · cases q2
  · have e : i = ds.length := by omega
    subst e
    rw [List.drop_length] at q2
    simp only [loopF] at q2
    split at q2
    · rename_i hc
      cases q2
      exact .inl ⟨D1.stop as2 _ H2 x2 R2 hc, P as2 H2 σ2 (x1.trans x2) R2 E2⟩
    · cases q2
theorem is_for {wi : TI} {fi : MI} {g1 : TG} {m : MG} {body : List Stmt} (hp : PassesOwn (model X.prog X.w) X.A X.env X.xe) (hc : X.calm = true) (hi : II X cad tg e wi fi) (hg : IG X cad tg g1 m) (hb : ISs X cad body u)
    (hs : ∀ x, foldedSetIterable e X.env x = pure x := by intro _; rfl) : ISt X cad (.For tg e body [] pos) (sFor fi m u) :=
  ps_weak (ps_for hp hc hi.1 hg.1 hb hs) fun _ _ _ hw => for_to hi.2 hg.2 hw
def loopW (t : MT) (u : MS) : Nat → MS
  | 0 => fun _ _ => none
  | n + 1 => fun ρ st => (t ρ st).bind fun p => if p.1 = true then (u ρ p.2).bind fun q => match q.1 with
      | .nx => loopW t u n q.2.1 q.2.2
      | .ct => loopW t u n q.2.1 q.2.2
      | .bk => some (.nx, q.2.1, q.2.2)
      | .rt d => some (.rt d, q.2.1, q.2.2)
    else some (.nx, ρ, p.2)
theorem loopW_more {t : MT} {u : MS} : ∀ {n : Nat} {ρ : Rho} {st : Sto} {r : Fl × Rho × Sto} (m : Nat), n ≤ m → loopW t u n ρ st = some r → loopW t u m ρ st = some r
  | 0, _, _, _, _, _, e => by cases e
  | n + 1, ρ, st, r, 0, h, _ => by omega
  | n + 1, ρ, st, r, m + 1, h, e => by
    simp only [loopW] at e ⊢
    obtain ⟨p, e1, e⟩ := bind_some e
    rw [e1]
    show (if p.1 = true then _ else _) = _
    split at e
    · rename_i hc
      rw [if_pos hc]
      obtain ⟨⟨fl, ρ1, st1⟩, e2, e⟩ := bind_some e
      rw [e2]
      cases fl with
      | nx => exact loopW_more m (by omega) e
      | ct => exact loopW_more m (by omega) e
      | bk => exact e
      | rt d => exact e
    · rename_i hc
      rw [if_neg hc]
      exact e
def FUEL : Nat := 1000000000
def sWhile (t : MT) (u : MS) : MS := fun ρ st => loopW t u FUEL ρ st
theorem while_to {K : PySem.W.Frag} {t : MT} {u : MS} {N : Nat} {Dn : Ends} {σ : L2.St} {H : Hp} (hw : tIS K cad (fun ρ st => loopW t u N ρ st) Dn σ H) : tWhile (tIT K cad t) (tIS K cad u) Dn σ H := by
  obtain ⟨as, st, ρ, fl, ρ', st', R, E, q, P⟩ := hw
  refine ⟨fun n σ2 H2 => ∃ as2 ρ2 st2, Ext K as H as2 H2 ∧ Rel K cad as2 st2 H2 ∧ ER K as2 H2 ρ2 σ2 ∧ loopW t u n ρ2 st2 = some (fl, ρ', st'), ⟨N, as, ρ, st, .refl, R, E, q⟩, ?_⟩
  rintro n σ2 H2 ⟨as2, ρ2, st2, x2, R2, E2, q2⟩
  cases n with
  | zero => cases q2
  | succ n =>
    simp only [loopW] at q2
    obtain ⟨⟨k, st3⟩, e1, q2⟩ := bind_some q2
    refine tIT_run R2 E2 e1 fun as3 H3 x3 R3 E3 => ?_
    cases k with
    | true =>
      rw [if_pos rfl] at q2
      obtain ⟨⟨fl4, ρ4, st4⟩, e4, q2⟩ := bind_some q2
      refine iteT ⟨fun σ5 H5 => ∃ as5 ρ5 st5, Ext K as H as5 H5 ∧ Rel K cad as5 st5 H5 ∧ ER K as5 H5 ρ5 σ5 ∧ loopW t u n ρ5 st5 = some (fl, ρ', st'), ?_, ?_⟩
      · rintro σ5 H5 ⟨as5, ρ5, st5, x5, R5, E5, q5⟩
        exact ⟨n, Nat.lt_succ_self n, as5, ρ5, st5, x5, R5, E5, q5⟩
      · refine tIS_run R3 E3 e4 fun as4 H4 σ4 x4 R4 E4 => ?_
        cases fl4 with
        | nx => exact ⟨as4, ρ4, st4, x2.trans (x3.trans x4), R4, E4, q2⟩
        | ct => exact ⟨as4, ρ4, st4, x2.trans (x3.trans x4), R4, E4, q2⟩
        | bk =>
          cases q2
          exact P as4 H4 σ4 (x2.trans (x3.trans x4)) R4 E4
        | rt d =>
          cases q2
          exact P as4 H4 σ4 (x2.trans (x3.trans x4)) R4 E4
    | false =>
      cases q2
      exact iteF (P as3 H3 σ2 (x2.trans x3) R3 E3)
theorem is_while {body : List Stmt} (hp : PassesOwn (model X.prog X.w) X.A X.env X.xe) (hc : IT X cad c t) (hb : ISs X cad body u) : ISt X cad (.While c body [] pos) (sWhile t u) :=
  ps_weak (ps_while hp hc hb) fun _ _ _ hw => while_to hw
def wipeD (ρ : Rho) : List Nat → Rho
  | [] => ρ
  | v :: vs => (wipeD ρ vs).set v none
theorem ER.wipe {K : PySem.W.Frag} {as : List Addr} {H : Hp} {ρ : Rho} {σ : L2.St} (E : ER K as H ρ σ) : ∀ vs : List Nat, ER K as H (wipeD ρ vs) (L2.wipe σ vs)
  | [] => E
  | v :: vs => by
    have ih := E.wipe vs
    refine ⟨by show ((wipeD ρ vs).set v none).length = ((L2.wipe σ vs).set v none).length; rw [List.length_set, List.length_set, ih.1], fun i d e => ?_⟩
    have e' : ((wipeD ρ vs).set v none)[i]? = some (some d) := e
    by_cases hi : v = i
    · subst hi
      by_cases hv : v < (wipeD ρ vs).length
      · rw [List.getElem?_set_self hv] at e'
        cases e'
      · rw [List.getElem?_eq_none (by simpa using hv)] at e'
        cases e'
    · rw [List.getElem?_set_ne hi] at e'
      obtain ⟨w, e1, r⟩ := ih.2 i d e'
      exact ⟨w, by show ((L2.wipe σ vs).set v none)[i]? = _; rw [List.getElem?_set_ne hi]; exact e1, r⟩
theorem wipe_eq {σ σ2 : L2.St} (hl : σ.length = σ2.length) : ∀ {vs : List Nat}, (∀ i, i ∉ vs → σ[i]? = σ2[i]?) → L2.wipe σ vs = L2.wipe σ2 vs := fun {vs} h => by
  apply List.ext_getElem?
  intro i
  by_cases hi : i ∈ vs
  · have z : ∀ τ : L2.St, ∀ ws : List Nat, i ∈ ws → (L2.wipe τ ws)[i]? = if i < τ.length then some none else none := fun τ ws => by
      induction ws with
      | nil => intro h; cases h
      | cons w r ih =>
        intro h
        show ((L2.wipe τ r).set w none)[i]? = _
        by_cases e : w = i
        · subst e
          by_cases hl : w < τ.length
          · rw [if_pos hl, List.getElem?_set_self (by rw [L2.wipe_length]; exact hl)]
          · rw [if_neg hl, List.getElem?_eq_none (by rw [List.length_set, L2.wipe_length]; omega)]
        · rw [List.getElem?_set_ne e]
          rcases List.mem_cons.mp h with h | h
          · exact absurd h.symm e
          · exact ih h
    rw [z σ vs hi, z σ2 vs hi, hl]
  · rw [L2.wipe_out hi, L2.wipe_out hi]
    exact h i hi
theorem wipe_set1 {σ : L2.St} {vs : List Nat} {i : Nat} {x : V} (hi : i ∈ vs) : L2.wipe ((L2.wipe σ vs).set i (some x)) vs = L2.wipe σ vs := by
  have h1 : ∀ τ : L2.St, L2.wipe (L2.wipe τ vs) vs = L2.wipe τ vs := fun τ => wipe_eq (L2.wipe_length τ vs) fun j hj => L2.wipe_out hj
  rw [← h1 σ]
  refine wipe_eq (by rw [List.length_set, h1, L2.wipe_length]) fun j hj => ?_
  rw [List.getElem?_set_ne (fun e : i = j => hj (e ▸ hi)), h1]
def IGw (X : Cx) (cad : Cad) (tg : Expr) (g : TG) (m : MG) (vs : List Nat) : Prop := PG X tg g
def GW (K : PySem.W.Frag) (g : TG) (m : MG) (vs : List Nat) : Prop := ∀ (as : List Addr) (H : Hp) (d : D) (v : V) (ρ ρ' : Rho) (σ : L2.St) (Q : L2.St → Hp → Prop), VR K as H d v → ER K as H ρ σ → m d ρ = some ρ' →
  (∀ σ', ER K as H ρ' σ' → (L2.wipe σ' vs = L2.wipe σ vs) → Q σ' H) → g v σ H Q
theorem gw_name {K : PySem.W.Frag} {i : Nat} {vs : List Nat} (hi : i ∈ vs) : GW K (gName i) (mName i) vs := fun as H d v ρ ρ' σ Q r E e P => by
  cases e
  refine P _ (E.set r) (wipe_eq (by simp) fun j hj => ?_)
  rw [List.getElem?_set_ne (fun e : i = j => hj (e ▸ hi))]
def GWs (K : PySem.W.Frag) (g : TGs) (m : List D → Rho → Option Rho) (vs : List Nat) : Prop := ∀ (as : List Addr) (H : Hp) (ds : List D) (xs : List V) (ρ ρ' : Rho) (σ : L2.St) (Q : L2.St → Hp → Prop), VRs K as H ds xs → ER K as H ρ σ → m ds ρ = some ρ' →
  (∀ σ', ER K as H ρ' σ' → (L2.wipe σ' vs = L2.wipe σ vs) → Q σ' H) → g xs σ H Q
theorem gws_nil {K : PySem.W.Frag} {vs : List Nat} : GWs K gNil mNil vs := fun as H ds xs ρ ρ' σ Q r E e P => by
  cases r with
  | nil =>
    cases e
    exact ⟨rfl, P σ E rfl⟩
  | cons _ _ => cases e
theorem gws_cons {K : PySem.W.Frag} {g1 : TG} {g2 : TGs} {m : MG} {n : List D → Rho → Option Rho} {vs : List Nat} (h1 : GW K g1 m vs) (h2 : GWs K g2 n vs) : GWs K (gCons g1 g2) (mCons m n) vs := fun as H ds xs ρ ρ' σ Q r E e P => by
  cases r with
  | nil => cases e
  | @cons d ds v xs r t =>
    obtain ⟨ρ1, e1, e2⟩ := bind_some e
    exact ⟨v, xs, rfl, h1 as H d v ρ ρ1 σ _ r E e1 fun σ1 E1 w1 => h2 as H ds xs ρ1 ρ' σ1 Q t E1 e2 fun σ2 E2 w2 => P σ2 E2 (w2.trans w1)⟩
theorem gw_tup {K : PySem.W.Frag} {n : Nat} {g2 : TGs} {m : List D → Rho → Option Rho} {vs : List Nat} (h : GWs K g2 m vs) : GW K (gTup K n g2) (mTup n m) vs := fun as H d v ρ ρ' σ Q r E e P => by
  cases r with
  | @tup a xs ds hs rs =>
    simp only [mTup] at e
    split at e
    · rename_i hl
      exact ⟨a, xs, rfl, hs, by rw [← rs.length]; exact hl, h as H ds xs ρ ρ' σ Q rs E e P⟩
    · cases e
  | _ => cases e
def tYesM : MT := fun _ st => some (true, st)
open Classical in
noncomputable def loopC (chk : Sto → Prop) (m : MG) (t : MT) (f : ME) (ρ0 : Rho) (n : Nat) : List D → Sto → Option Sto
  | [] => fun st => if chk st then some st else none
  | d :: r => fun st => if chk st then (m d ρ0).bind fun ρ1 => (t ρ1 st).bind fun q => if q.1 = true then (f ρ1 q.2).bind fun z => match myL z.2 n with
      | some acc => if acc.length < LIM then loopC chk m t f ρ0 n r (z.2.set n (.lst (acc ++ [z.1]))) else none
      | none => none
      else loopC chk m t f ρ0 n r q.2
    else none
noncomputable def eLc (vs : List Nat) (fi : MI) (m : MG) (t : MT) (f : ME) : ME := fun ρ st => (fi ρ st).bind fun p => (loopC p.1.2 m t f (wipeD ρ vs) p.2.length p.1.1 (p.2 ++ [.lst []])).map fun st' => (.ref p.2.length, st')
theorem lc_to {K : PySem.W.Frag} {wi : TI} {fi : MI} {g1 : TG} {m : MG} {vs : List Nat} {tt : TT} (hi : ∀ σ H R, tII K cad fi σ H R → wi σ H R) (hg : GW K g1 m vs) (ht : ∀ σ H Q, tIT K cad t σ H Q → tt σ H Q)
    {σ : L2.St} {H : Hp} {Q : VK} (hw : tI K cad (eLc vs fi m t f) σ H Q) : tLc wi g1 tt (tI K cad f) vs σ H Q := by
  obtain ⟨as, st, ρ, d0, st', R, E, q, P⟩ := hw
  obtain ⟨⟨⟨ds, chk⟩, st1⟩, e1, q⟩ := bind_some q
  obtain ⟨stE, qe, q'⟩ := map_some q
  obtain ⟨rfl, rfl⟩ := Prod.mk.inj q'
  refine hi σ H _ ⟨as, st, ρ, ds, chk, st1, R, E, e1, fun as1 H1 J x1 R1 D1 => ?_⟩
  intro p hp
  have xp : Ext K as1 H1 (as1 ++ [p]) (upd H1 p (.lst [])) := Ext.fresh1 hp
  have Rp : Rel K cad (as1 ++ [p]) (st1 ++ [.lst []]) (upd H1 p (.lst [])) := R1.new hp ⟨[], upd_same, .nil⟩
  have ap : (as1 ++ [p])[st1.length]? = some p := by rw [← R1.len]; simp
  refine ⟨fun i n H2 => ∃ as2 st2, n = ds.length - i ∧ i ≤ ds.length ∧ Ext K (as1 ++ [p]) (upd H1 p (.lst [])) as2 H2 ∧ Rel K cad as2 st2 H2 ∧ loopC chk m t f (wipeD ρ vs) st1.length (ds.drop i) st2 = some stE,
    ⟨ds.length, as1 ++ [p], st1 ++ [Ob.lst []], rfl, Nat.zero_le _, .refl, Rp, qe⟩, ?_⟩
  rintro i n H2 ⟨as2, st2, rfl, hi2, x2, R2, q2⟩
  have Ew : ER K as2 H2 (wipeD ρ vs) (L2.wipe σ vs) := ((E.mono x1).mono (xp.trans x2)).wipe vs
  by_cases hlt : i < ds.length
  · rw [List.drop_eq_getElem_cons hlt] at q2
    simp only [loopC] at q2
    split at q2
    · rename_i hc
      obtain ⟨ρ3, e3, q2⟩ := bind_some q2
      obtain ⟨⟨k, st4⟩, e4, q2⟩ := bind_some q2
      obtain ⟨g1', g2'⟩ := D1.go as2 st2 H2 i ds[i] (xp.trans x2) R2 hc (List.getElem?_eq_getElem hlt)
      refine .inr ⟨g1', fun H5 => ∃ as5 st5, Ext K (as1 ++ [p]) (upd H1 p (.lst [])) as5 H5 ∧ Rel K cad as5 st5 H5 ∧ loopC chk m t f (wipeD ρ vs) st1.length (ds.drop (i + 1)) st5 = some stE, ?_, ?_⟩
      · rintro H5 ⟨as5, st5, x5, R5, q5⟩
        exact ⟨ds.length - (i + 1), by omega, as5, st5, rfl, hlt, x5, R5, q5⟩
      · intro x H3 hy
        obtain ⟨x3, R3, rv⟩ := g2' x H3 hy
        refine hg as2 H3 ds[i] x (wipeD ρ vs) ρ3 (L2.wipe σ vs) _ rv (Ew.mono x3) e3 fun σ3 E3 w3 => ⟨?_, ?_⟩
        · rw [w3]
          exact wipe_eq (L2.wipe_length σ vs) fun j hj => L2.wipe_out hj
        · refine ht _ _ _ (tIT_run R3 E3 e4 fun as4 H4 x4 R4 E4 => ?_)
          cases k with
          | true =>
            rw [if_pos rfl] at q2
            obtain ⟨⟨y, st5⟩, e5, q2⟩ := bind_some q2
            refine iteT (tI_run R4 E4 e5 fun as5 H5 v x5 R5 E5 r5 => ?_)
            simp only at q2
            split at q2
            · rename_i acc e6
              split at q2
              · rename_i hl
                have xx := (x2.trans (x3.trans (x4.trans x5)))
                have ap5 := xx.at ap
                obtain ⟨ws, hws, rws⟩ := R5.myL e6 ap5
                have e7 := myL_at e6
                obtain ⟨u0, q0, q1, q3⟩ := (R5.ob _ _ p e7 ap5).there rfl
                have x6 : Ext K as5 H5 as5 (upd H5 p (.lst (ws ++ [v]))) := ⟨⟨[], by simp⟩, fun b ys h => sqT_write q0 q1 q3 h, fun _ _ _ h => frz_write q0 q3 h⟩
                obtain ⟨R6, _⟩ := R5.write (u := .lst (ws ++ [v])) (o' := .lst (acc ++ [y])) e7 ap5 rfl rfl ⟨_, upd_same, (rws.append (.cons r5 .nil)).mono x6⟩
                exact ⟨ws, hws, by rw [← rws.length]; exact lim_lt hl, as5, _, xx.trans x6, R6, q2⟩
              · cases q2
            · cases q2
          | false => exact iteF ⟨as4, st4, x2.trans (x3.trans x4), R4, q2⟩
    · cases q2
  · have e : i = ds.length := by omega
    subst e
    rw [List.drop_length] at q2
    simp only [loopC] at q2
    split at q2
    · rename_i hc
      cases q2
      exact .inl ⟨D1.stop as2 _ H2 (xp.trans x2) R2 hc, P as2 H2 (.ref p) (x1.trans (xp.trans x2)) R2 (.ref (x2.at ap))⟩
    · cases q2
theorem tYes_to {K : PySem.W.Frag} : ∀ σ H Q, tIT K cad tYesM σ H Q → tYes σ H Q := fun σ H Q ⟨as, st, ρ, b, st', R, E, q, P⟩ => by
  cases q
  exact P as H .refl R
theorem ie_lc {elt it : Expr} {ifs : List Expr} {scope : Scope} {own : List (Str × Nat)} {wi : TI} {fi : MI} {g1 : TG} {m : MG} {tt : TT} (hc : X.calm = true) (hN : X.N.Nodup) (hi : II X cad tg it wi fi) (ok : BlkOk X.N X.env.scope scope own)
    (hg : ∀ (s : Shared) (H : Hp) (C : Addr) (cl : List (Str × Addr)) (fp : List Addr), PG (X.blk s H scope (compEnvC scope cl C X.env) fp) tg g1) (hw : GW X.K g1 m (own.map (·.2)))
    (ht : ∀ (s : Shared) (H : Hp) (C : Addr) (cl : List (Str × Addr)) (fp : List Addr), PTs (X.blk s H scope (compEnvC scope cl C X.env) fp) ifs tt) (htt : ∀ σ H Q, tIT X.K cad t σ H Q → tt σ H Q)
    (he : ∀ (s : Shared) (H : Hp) (C : Addr) (cl : List (Str × Addr)) (fp : List Addr), IE (X.blk s H scope (compEnvC scope cl C X.env) fp) cad elt f) (hs : ∀ x, foldedSetIterable it X.env x = pure x := by intro _; rfl) :
    IE X cad (.ListComp elt [⟨tg, it, ifs, 0⟩] scope pos) (eLc (own.map (·.2)) fi m t f) :=
  pe_weak (pe_lc (te := tI X.K cad f) hc hN hi.1 ok hg ht (fun s H C cl fp => he s H C cl fp) hs) fun _ _ _ h => lc_to hi.2 hw htt h
theorem is_setLc {i : Nat} {y : Str} {py spos : Pos} {elt it : Expr} {ifs : List Expr} {scope : Scope} {own : List (Str × Nat)} {wi : TI} {fi : MI} {g1 : TG} {m : MG} {tt : TT} (hc : X.calm = true) (hN : X.N.Nodup) (hy : X.N[i]? = some y) (hyl : X.env.scope.names.lookup y = some .local)
    (hsw : swapsWith (.ListComp elt [⟨tg, it, ifs, 0⟩] scope pos) (some (.Name y py)) spos.line X.env = pure true) (hi : II X cad tg it wi fi) (ok : BlkOk X.N X.env.scope scope own)
    (hg : ∀ (s : Shared) (H : Hp) (C : Addr) (cl : List (Str × Addr)) (fp : List Addr), PG (X.blk s H scope (compEnvC scope cl C X.env) fp) tg g1) (hw : GW X.K g1 m (own.map (·.2)))
    (ht : ∀ (s : Shared) (H : Hp) (C : Addr) (cl : List (Str × Addr)) (fp : List Addr), PTs (X.blk s H scope (compEnvC scope cl C X.env) fp) ifs tt) (htt : ∀ σ H Q, tIT X.K cad t σ H Q → tt σ H Q)
    (he : ∀ (s : Shared) (H : Hp) (C : Addr) (cl : List (Str × Addr)) (fp : List Addr), IE (X.blk s H scope (compEnvC scope cl C X.env) fp) cad elt f) (hs : ∀ x, foldedSetIterable it X.env x = pure x := by intro _; rfl) :
    ISt X cad (.Assign [.Name y py] (.ListComp elt [⟨tg, it, ifs, 0⟩] scope pos) spos) (sSet i (eLc (own.map (·.2)) fi m t f)) := by
  refine ps_weak (ps_setLc (te := tI X.K cad f) hc hN hy hyl hsw hi.1 ok hg ht (fun s H C cl fp => he s H C cl fp) hs) fun Dn σ H hw2 => ?_
  obtain ⟨as, st, ρ, fl, ρ', st', R, E, q, P⟩ := hw2
  obtain ⟨⟨x, st1⟩, e1, e2⟩ := map_some q
  cases e2
  exact lc_to hi.2 hw htt (tI_run R E e1 fun as1 H1 v x1 R1 E1 r1 => P as1 H1 _ x1 R1 (E1.set r1))
def mkFn (N ar : Nat) (u : MS) : FN := fun ds st => if ds.length = ar then match u (ds.map some ++ List.replicate (N - ar) none) st with
    | some (.rt d, _, st') => some (d, st')
    | some (.nx, _, st') => some (.non, st')
    | _ => none
  else none
theorem ER.start {K : PySem.W.Frag} {as : List Addr} {H : Hp} {ds : List D} {vs : List V} (r : VRs K as H ds vs) (n : Nat) : ER K as H (ds.map some ++ List.replicate n none) (vs.map some ++ List.replicate n none) := by
  refine ⟨by simp [r.length], fun i d e => ?_⟩
  by_cases hi : i < ds.length
  · rw [List.getElem?_append_left (by simpa using hi), List.getElem?_map] at e
    obtain ⟨d', e1, e2⟩ := map_some e
    cases e2
    obtain ⟨v, hv, rv⟩ := r.get e1
    refine ⟨v, ?_, rv⟩
    rw [List.getElem?_append_left (by simpa [← r.length] using hi), List.getElem?_map, hv]
    rfl
  · rw [List.getElem?_append_right (by simpa using hi)] at e
    have := List.mem_of_getElem? e
    rw [List.mem_replicate] at this
    cases this.2
theorem fn_ok {P : Program} {w : World} {K : PySem.W.Frag} {mg : Str → Option Value} {base : Heap} {x qual : Str} {st : Stmt} {fa : Addr} {fd : FuncData} {N ps : List Str} {k : Nat} {u : MS} (F : Fun K x qual st fa fd) (S : FnScope N ps (defScope st))
    (hbody : ∀ (cdv : Value) (A : Around) (outer : List Env) (s : Shared) (H : Hp) (E : XK), Room k (A.deeper (envOfC qual (defScope st) s.heap.objs.size fa cdv)) → ISs (cxOf CX0 P w K mg base N qual (defScope st) fa cdv A outer s H E).nox cad (defBody st) u) :
    FnOk P w K mg base CX0 (k + 1) fa fd ps (spOf K cad (mkFn N.length ps.length u)) := by
  refine F.ok S (fun vs H Q E h => ?_) (fun cdv A outer s H vs Q E hr h => ?_)
  · obtain ⟨as, st, ds, d, st', R, r, e, _⟩ := h
    unfold mkFn at e
    split at e
    · rename_i hl
      rw [← r.length]
      exact hl
    · cases e
  · refine ⟨_, hbody cdv A outer s H E hr, ?_⟩
    obtain ⟨as, st, ds, d, st', R, r, e, P⟩ := h
    unfold mkFn at e
    split at e
    · rename_i hl
      have hst : L2.start N vs = vs.map some ++ List.replicate (N.length - ps.length) none := by
        unfold L2.start
        rw [← r.length, hl]
      rw [hst]
      split at e
      · rename_i d' ρ' st'' e1
        cases e
        refine ⟨as, st, _, _, ρ', _, R, ER.start r (N.length - ps.length), e1, fun as' H' σ' x R' E' v rv => P as' H' v x R' rv⟩
      · rename_i ρ' st'' e1
        cases e
        exact ⟨as, st, _, _, ρ', _, R, ER.start r (N.length - ps.length), e1, fun as' H' σ' x R' E' => P as' H' .non x R' .non⟩
      · cases e
    · cases e
end
end MP

set_option maxRecDepth 100000
namespace MP
open PySem PySem.Spec PyProof.Rows L2
structure FnAt (K : PySem.W.Frag) (mg : Str → Option Value) (x : Str) (st : Stmt) (ps : List Str) : Prop where
  ex : ∃ (f : Addr) (fd : FuncData), mg x = some (.ref f) ∧ Fun K x x st f fd ∧ Binds K fd ps []
theorem fnAt_mk {K : PySem.W.Frag} {h : Heap} {mg : Str → Option Value} (X : K.In h) (G : h.Ns mainGlobals mg) {x : Str} {st : Stmt} {ps : List Str} {f : Addr} {od an : Option Addr} {sl : Array (Option Value)} {oc kV dc pm cd ct : Value}
    (a : PySem.W.nsIn K mainGlobals x = some (some (.ref f))) (l : K.lookup f = some ⟨oc, od, .func (PySem.W.fnOf x x (defArgs st) (defBody st) (defScope st) .none kV dc pm an cd ct), sl⟩) (c : PySem.W.codeIn K cd x = true) (k : PySem.W.keepIn K (.ref f) = true)
    (hb : ∀ (kV doc pm : Value) (an : Option Addr) (cdv ct : Value) (us : List Value), us.length = ps.length → bindArgs (PySem.W.fnOf x x (defArgs st) (defBody st) (defScope st) .none kV doc pm an cdv ct) ⟨us, []⟩ = pure (ps.zip us)) : FnAt K mg x st ps :=
  ⟨f, _, PySem.W.mg_of X G a, fun_mk l c k, (fun_mk l c k).binds hb⟩
section
variable {P : Program} {w : World} {K : PySem.W.Frag} {mg : Str → Option Value} {base : Heap} {cad : Cad}
theorem fn_fact {x : Str} {st : Stmt} {N ps : List Str} {k : Nat} {u : MS} (A : FnAt K mg x st ps) (S : FnScope N ps (defScope st))
    (hbody : ∀ (fa : Addr) (cdv : Value) (A : Around) (outer : List Env) (s : Shared) (H : Hp) (E : XK), Room k (A.deeper (envOfC x (defScope st) s.heap.objs.size fa cdv)) → ISs (cxOf CX0 P w K mg base N x (defScope st) fa cdv A outer s H E).nox cad (defBody st) u) :
    FnFact P w K mg base cad x (k + 1) [] (mkFn N.length ps.length u) := by
  obtain ⟨f, fd, hm, F, hb⟩ := A.ex
  exact ⟨f, fd, ps, [], [], fn_ok F S (fun cdv A outer s H E hr => hbody f cdv A outer s H E hr), hm, F.kp, hb, .nil, fun _ _ => .nil⟩
theorem fn_fact0 {x : Str} {st : Stmt} {ps : List Str} {k : Nat} (A : FnAt K mg x st ps) : FnFact P w K mg base cad x k [] (fun _ _ => none) := by
  obtain ⟨f, fd, hm, F, hb⟩ := A.ex
  refine ⟨f, fd, ps, [], [], ⟨fun vs H Q E h => ?_, fun A outer s H args us vs Q E hr he hb hv hs => ?_⟩, hm, F.kp, hb, .nil, fun _ _ => .nil⟩
  · obtain ⟨as, st, ds, d, st', R, r, e, _⟩ := h
    cases e
  · obtain ⟨as, st, ds, d, st', R, r, e, _⟩ := hs
    cases e
theorem FnFact.more {x : Str} {k k' : Nat} {dds : List D} {F : FN} (h : FnFact P w K mg base cad x k dds F) (hk : k ≤ k') : FnFact P w K mg base cad x k' dds F := by
  obtain ⟨f, fd, ps, dvs, dus, G, r⟩ := h.ex
  exact ⟨f, fd, ps, dvs, dus, G.mono hk, r⟩
end
def spLaw (K : PySem.W.Frag) : Sp := fun vs H Q _ => ∃ (a : Addr) (ns : List Int), vs = [.ref a] ∧ SqL K H a (ns.map V.int) ∧ Only H ∧ ns.length ≤ 63 ∧ ∀ H', Q (.bl true) H'
theorem law_imp {P : Program} {w : World} {K : PySem.W.Frag} {mg : Str → Option Value} {base : Heap} {cad : Cad} {k : Nat} {f : Addr} {fd : FuncData} {ps : List Str} {F : FN} (G : FnOk P w K mg base CX0 k f fd ps (spOf K cad F))
    (hlaw : ∀ ns : List Int, ns.length ≤ 63 → ∃ st', F [.ref 0] [.fz (ns.map D.int)] = some (.bl true, st')) : FnOk P w K mg base CX0 k f fd ps (spLaw K) := by
  refine G.imp fun vs H Q E h => ?_
  obtain ⟨a, ns, rfl, hs, ho, hl, q⟩ := h
  obtain ⟨st', e⟩ := hlaw ns hl
  refine ⟨[a], [.fz (ns.map D.int)], [.ref 0], .bl true, st', ⟨rfl, fun i j b o u h1 h2 h3 h4 h5 h6 => ?_, fun n o b h1 h2 => ?_⟩, .cons (.ref rfl) .nil, e, fun as' H' v x R' r => ?_⟩
  · cases i with
    | zero =>
      cases h3
      cases h5
    | succ i => simp at h3
  · cases n with
    | zero =>
      cases h1
      cases h2
      refine ⟨ns.map V.int, ?_, VRs.ints ns⟩
      rcases hs with (h | h) | h
      · rcases ho a with z | ⟨ob, xs, z⟩
        · rw [z] at h
          cases h
        · rw [z] at h
          cases h
      · exact .inl h
      · exact .inr fun H' => .inr h
    | succ n => simp at h1
  · cases r
    exact q H'
theorem walk {l : PySem.W.OpenLaw} {q : Program} {loose : List Str} {XP : (Str → Option Value) → Heap → Prop} {YP : World → Heap → Prop} {d : DefRec} {K : Params → PySem.W.Frag} {x : Str} {k : Nat} (hn : l.most = some 63) (hdf : d.params.defaults = []) (hr : Room k callerA)
    (hY : ∀ (w : World) (h : Heap), YP w h → (K w.params).In h)
    (F : ∀ (w : World) (mg : Str → Option Value) (fa : Addr) (h : Heap), (K w.params).In h → h.Ns mainGlobals mg → mg d.name = some (.ref fa) →
      ∃ fd : FuncData, (∀ (s : Shared) (u : Value), BindsTo s fd ⟨[u], []⟩ [(x, u)]) ∧ ∀ base : Heap, (K w.params).In base → base.Ns mainGlobals mg → FnOk l.prog w (K w.params) mg base CX0 k fa fd [x] (spLaw (K w.params))) :
    PySem.W.WalkO q loose XP YP l.row.toRowW d [] (fun f vs => PySem.call f vs) :=
  L2.walk_of (n := 63) (k := k) (x := x) (CX := fun _ => CX0) (sp := fun w => spLaw (K w.params)) hn (by decide) hdf hr hY F (fun _ _ a ns hl ho hS => ⟨a, ns, rfl, hS, ho, hl, fun _ => rfl⟩) fun _ _ _ _ _ z => z
end MP

set_option maxRecDepth 100000
namespace MP
open PySem PySem.Spec PyProof.Rows L2
abbrev MPs := Rho → Sto → Option (List (D × D) × Sto)
inductive VR2 (K : PySem.W.Frag) (as : List Addr) (H : Hp) : List (D × D) → List (V × V) → Prop
  | nil : VR2 K as H [] []
  | cons {d e : D} {v w : V} {ps : List (D × D)} {qs : List (V × V)} : VR K as H d v → VR K as H e w → VR2 K as H ps qs → VR2 K as H ((d, e) :: ps) ((v, w) :: qs)
def tIP (K : PySem.W.Frag) (cad : Cad) (g : MPs) (σ : L2.St) (H : Hp) (k : List (V × V) → Hp → Prop) : Prop :=
  ∃ as st ρ ps st', Rel K cad as st H ∧ ER K as H ρ σ ∧ g ρ st = some (ps, st') ∧ ∀ as' H' qs, Ext K as H as' H' → Rel K cad as' st' H' → VR2 K as' H' ps qs → k qs H'
def IPs (X : Cx) (cad : Cad) (pos : Pos) (keys : List (Option Expr)) (values : List Expr) (trs : List (TE × TE)) (g : MPs) : Prop := PPs X pos keys values trs ∧ ∀ σ H k, tIP X.K cad g σ H k → tPairs trs σ H k
section
variable {X : Cx} {cad : Cad} {a b : Expr} {f h : ME} {pos : Pos} {ks : List (Option Expr)} {vs : List Expr} {trs : List (TE × TE)} {g : MPs}
def psNil : MPs := fun _ st => some ([], st)
def psCons (f h : ME) (g : MPs) : MPs := fun ρ st => (f ρ st).bind fun p => (h ρ p.2).bind fun q => (g ρ q.2).map fun r => ((p.1, q.1) :: r.1, r.2)
theorem ips_nil : IPs X cad pos [] [] [] psNil := ⟨pps_nil, fun σ H k ⟨as, st, ρ, ps, st', R, E, q, P⟩ => by
  cases q
  exact P as H [] .refl R .nil⟩
theorem ips_cons (ha : IE X cad a f) (hb : IE X cad b h) (hr : IPs X cad pos ks vs trs g) : IPs X cad pos (some a :: ks) (b :: vs) ((tI X.K cad f, tI X.K cad h) :: trs) (psCons f h g) := by
  refine ⟨pps_cons ha hb hr.1, fun σ H k ⟨as, st, ρ, ps, st', R, E, q, P⟩ => ?_⟩
  obtain ⟨⟨x, st1⟩, e1, q⟩ := bind_some q
  obtain ⟨⟨y, st2⟩, e2, q⟩ := bind_some q
  obtain ⟨⟨r, st3⟩, e3, q⟩ := map_some q
  cases q
  exact tI_run R E e1 fun as1 H1 v x1 R1 E1 r1 => tI_run R1 E1 e2 fun as2 H2 w x2 R2 E2 r2 => hr.2 σ H2 _ ⟨as2, st2, ρ, r, st3, R2, E2, e3, fun as3 H3 qs x3 R3 r3 =>
    P as3 H3 ((v, w) :: qs) (x1.trans (x2.trans x3)) R3 (.cons (r1.mono (x2.trans x3)) (r2.mono x3) r3)⟩
def keysO : List (D × D) → Option (List (Key × D))
  | [] => some []
  | p :: r => (keyOf p.1).bind fun k => (keysO r).map fun s => (k, p.2) :: s
def mergeD (kvs more : List (Key × D)) : List (Key × D) := more.foldl (fun acc kv => putD acc kv.1 kv.2) kvs
theorem KVR.merge {K : PySem.W.Frag} {as : List Addr} {H : Hp} {more : List (Key × D)} {ms : List (Key × V)} (r : KVR K as H more ms) : ∀ {kvs : List (Key × D)} {xs : List (Key × V)}, KVR K as H kvs xs → KVR K as H (mergeD kvs more) (mergeK xs ms) := by
  induction r with
  | nil => intro _ _ q; exact q
  | @cons p q ps qs h _ ih =>
    intro kvs xs r0
    have e := r0.put p.1 h.2
    show KVR K as H (mergeD (putD kvs p.1 p.2) ps) (mergeK (putK xs q.1 q.2) qs)
    rw [← h.1]
    exact ih e
theorem keysO_to {K : PySem.W.Frag} {as : List Addr} {H : Hp} : ∀ {ps : List (D × D)} {qs : List (V × V)} {kvs : List (Key × D)}, VR2 K as H ps qs → keysO ps = some kvs → ∃ xs : List (Key × V), qs = xs.map (fun kv => (kV kv.1, kv.2)) ∧ KVR K as H kvs xs ∧ xs.length = kvs.length
  | _, _, _, .nil, e => by
    cases e
    exact ⟨[], rfl, .nil, rfl⟩
  | _, _, _, .cons (d := d) (e := e') (v := v) (w := w) r1 r2 t, e => by
    obtain ⟨k, e1, e2⟩ := bind_some e
    obtain ⟨s, e3, rfl⟩ := map_some e2
    obtain ⟨xs, h1, h2, h3⟩ := keysO_to t e3
    refine ⟨(k, w) :: xs, ?_, .cons ⟨rfl, r2⟩ h2, by simp [h3]⟩
    rw [h1, List.map_cons, keyOf_is r1 e1]
def eDisp (g : MPs) : ME := fun ρ st => (g ρ (st ++ [.dic []])).bind fun p => (keysO p.1).bind fun kvs => match myD p.2 st.length with
  | some [] => if kvs.length ≤ 15 then some (.ref st.length, p.2.set st.length (.dic (mergeD [] kvs))) else none
  | _ => none
theorem ie_disp (hp : IPs X cad pos ks vs trs g) (hall : ks.all (·.isSome) = true) (hl : ks.length = vs.length) (h0 : ks ≠ []) (h15 : ks.length ≤ 15) : IE X cad (.Dict ks vs pos) (eDisp g) := by
  refine pe_weak (pe_disp hp.1 hall hl h0 h15) fun σ H Q => ?_
  rintro ⟨as, st, ρ, d, st', R, E, q, P⟩
  obtain ⟨⟨ps, st1⟩, e1, q⟩ := bind_some q
  obtain ⟨kvs, e2, q⟩ := bind_some q
  intro p hpn
  have xp : Ext X.K as H (as ++ [p]) (upd H p (.dK [])) := Ext.fresh1 hpn
  have Rp : Rel X.K cad (as ++ [p]) (st ++ [.dic []]) (upd H p (.dK [])) := R.new hpn ⟨[], upd_same, .nil⟩
  have ap : (as ++ [p])[st.length]? = some p := by rw [← R.len]; simp
  refine hp.2 σ _ _ ⟨as ++ [p], st ++ [.dic []], ρ, ps, st1, Rp, E.mono xp, e1, fun as1 H1 qs x1 R1 r1 => ?_⟩
  simp only at q
  split at q
  · rename_i e3
    split at q
    · rename_i hz
      cases q
      have ap1 := x1.at ap
      obtain ⟨ws, hw, rw'⟩ := R1.myD e3 ap1
      cases rw'
      obtain ⟨xs, h1, h2, h3⟩ := keysO_to r1 e2
      refine ⟨hw, xs, h1, by omega, ?_⟩
      have e4 := myD_at e3
      obtain ⟨u0, q0, q1, q2⟩ := (R1.ob _ _ p e4 ap1).there rfl
      have x2 : Ext X.K as1 H1 as1 (upd H1 p (.dK (mergeK [] xs))) := ⟨⟨[], by simp⟩, fun b ys h => sqT_write q0 q1 q2 h, fun _ _ _ h => frz_write q0 q2 h⟩
      obtain ⟨R2, _⟩ := R1.write (u := .dK (mergeK [] xs)) (o' := .dic (mergeD [] kvs)) e4 ap1 rfl rfl ⟨_, upd_same, Paired.map2 (fun _ _ z => ⟨z.1, z.2.mono x2⟩) (h2.merge .nil)⟩
      exact P as1 _ (.ref p) (xp.trans (x1.trans x2)) R2 (.ref ap1)
    · cases q
  · cases q
end
end MP

set_option maxRecDepth 100000
namespace MP
open PySem PySem.Spec L2
section
variable {o o' : O2} {u1 : D → Sto → Option (D × Sto)} {f g h : ME} {ga : MA} {t t' : MT} {u v : MS} {ρ ρ' : Rho} {st : Sto} {d e x y : D} {ds : List D} {b : Bool} {F : FN} {i j l N : Nat} {m : MG} {fi : MI}
def kVar (st : Sto) : Option (Option D) → Option (D × Sto)
  | some (some d) => some (d, st)
  | _ => none
theorem eVar_at : eVar i ρ st = kVar st ρ[i]? := by
  unfold eVar
  cases ρ[i]? with
  | none => rfl
  | some o => cases o <;> rfl
theorem kVar_some : kVar st (some (some d)) = some (d, st) := rfl
theorem eC_at : eC d ρ st = some (d, st) := rfl
def k3 (o : O2) (d : D) (r : Option (D × Sto)) : Option (D × Sto) := r.bind fun q => o d q.1 q.2
def k2 (o : O2) (g : ME) (ρ : Rho) (r : Option (D × Sto)) : Option (D × Sto) := r.bind fun p => (g ρ p.2).bind fun q => o p.1 q.1 q.2
theorem eBin_at : eBin o f g ρ st = k2 o g ρ (f ρ st) := rfl
theorem k2_some : k2 o g ρ (some (d, st)) = k3 o d (g ρ st) := rfl
theorem k3_some : k3 o d (some (e, st)) = o d e st := rfl
def k1 (u1 : D → Sto → Option (D × Sto)) (r : Option (D × Sto)) : Option (D × Sto) := r.bind fun p => u1 p.1 p.2
theorem eUn_at : eUn u1 f ρ st = k1 u1 (f ρ st) := rfl
theorem k1_some : k1 u1 (some (d, st)) = u1 d st := rfl
def kVal (st : Sto) (r : Option D) : Option (D × Sto) := r.map fun d => (d, st)
theorem kVal_some : kVal st (some d) = some (d, st) := rfl
def kBl (st : Sto) (r : Option Bool) : Option (D × Sto) := r.map fun b => (.bl b, st)
theorem kBl_some : kBl st (some b) = some (.bl b, st) := rfl
theorem kEq_at : kEq x y st = kBl st (eqO st x y) := rfl
def kBlN (st : Sto) (r : Option Bool) : Option (D × Sto) := r.map fun b => (.bl (!b), st)
theorem kBlN_some : kBlN st (some b) = some (.bl (!b), st) := rfl
theorem kNe_at : kNe x y st = kBlN st (eqO st x y) := rfl
theorem kIn_at : kIn false x y st = kBl st (inO st x y) := rfl
theorem kNotIn_at : kIn true x y st = kBlN st (inO st x y) := rfl
theorem kIx_at : kIx x y st = kVal st (ixO x y st) := rfl
theorem ixO_tup {k : Int} : ixO (.tup ds) (.int k) st = atI ds k := rfl
theorem kLt_int {k n : Int} : kLt (.int k) (.int n) st = some (.bl (decide (k < n)), st) := rfl
theorem kLe_int {k n : Int} : kLe (.int k) (.int n) st = some (.bl (decide (k ≤ n)), st) := rfl
theorem kGt_int {k n : Int} : kGt (.int k) (.int n) st = some (.bl (decide (n < k)), st) := rfl
theorem kGe_int {k n : Int} : kGe (.int k) (.int n) st = some (.bl (decide (n ≤ k)), st) := rfl
theorem kLt_str {k n : List Nat} : kLt (.str k) (.str n) st = some (.bl (decide (k < n)), st) := rfl
theorem kLe_str {k n : List Nat} : kLe (.str k) (.str n) st = some (.bl (!decide (n < k)), st) := rfl
theorem kGt_str {k n : List Nat} : kGt (.str k) (.str n) st = some (.bl (decide (n < k)), st) := rfl
theorem kGe_str {k n : List Nat} : kGe (.str k) (.str n) st = some (.bl (!decide (k < n)), st) := rfl
theorem kIs_non : kIs .non .non st = some (.bl true, st) := rfl
theorem kIs_bl : kIs (.bl b) .non st = some (.bl false, st) := rfl
theorem kIs_int {k : Int} : kIs (.int k) .non st = some (.bl false, st) := rfl
theorem kIs_str {k : List Nat} : kIs (.str k) .non st = some (.bl false, st) := rfl
theorem kIs_tup : kIs (.tup ds) .non st = some (.bl false, st) := rfl
theorem kIs_ref : kIs (.ref i) .non st = some (.bl false, st) := rfl
theorem kIsNot_non : kIsNot .non .non st = some (.bl false, st) := rfl
theorem kIsNot_bl : kIsNot (.bl b) .non st = some (.bl true, st) := rfl
theorem kIsNot_int {k : Int} : kIsNot (.int k) .non st = some (.bl true, st) := rfl
theorem kIsNot_str {k : List Nat} : kIsNot (.str k) .non st = some (.bl true, st) := rfl
theorem kIsNot_tup : kIsNot (.tup ds) .non st = some (.bl true, st) := rfl
theorem kIsNot_ref : kIsNot (.ref i) .non st = some (.bl true, st) := rfl
theorem opAdd_int {k n : Int} : opAdd (.int k) (.int n) st = some (.int (k + n), st) := rfl
theorem opAdd_str {k n : List Nat} : opAdd (.str k) (.str n) st = if k.length + n.length ≤ LIM then some (.str (k ++ n), st) else none := rfl
theorem opSub_int {k n : Int} : opSub (.int k) (.int n) st = some (.int (k - n), st) := rfl
theorem opMul_int {k n : Int} : opMul (.int k) (.int n) st = if cMul k n then some (.int (k * n), st) else none := rfl
theorem opDiv_int {k n : Int} : opDiv (.int k) (.int n) st = if cDiv k n then some (.int (gDiv k n), st) else none := rfl
theorem opMod_int {k n : Int} : opMod (.int k) (.int n) st = if cMod k n then some (.int (gMod k n), st) else none := rfl
theorem opPow_int {k n : Int} : opPow (.int k) (.int n) st = if cPow k n then some (.int (k ^ n.toNat), st) else none := rfl
theorem opAnd_int {k n : Int} : opAnd (.int k) (.int n) st = some (.int (Builtin.bitAnd k n), st) := rfl
theorem opOr_int {k n : Int} : opOr (.int k) (.int n) st = some (.int (Builtin.bitOr k n), st) := rfl
theorem opNeg_int {k : Int} : opNeg (.int k) st = some (.int (-k), st) := rfl
def kc4 (o' : O2) (y : D) (r : Option (D × Sto)) : Option (D × Sto) := r.bind fun z => o' y z.1 z.2
def kc3 (o' : O2) (h : ME) (ρ : Rho) (y : D) (r : Option (D × Sto)) : Option (D × Sto) := r.bind fun r => match r.1 with
  | .bl true => (h ρ r.2).bind fun z => o' y z.1 z.2
  | .bl false => some (.bl false, r.2)
  | _ => none
def kc2 (o o' : O2) (h : ME) (ρ : Rho) (x : D) (r : Option (D × Sto)) : Option (D × Sto) := r.bind fun y => kc3 o' h ρ y.1 (o x y.1 y.2)
def kc1 (o o' : O2) (g h : ME) (ρ : Rho) (r : Option (D × Sto)) : Option (D × Sto) := r.bind fun x => kc2 o o' h ρ x.1 (g ρ x.2)
theorem eChain_at : eChain o o' f g h ρ st = kc1 o o' g h ρ (f ρ st) := rfl
theorem kc1_some : kc1 o o' g h ρ (some (x, st)) = kc2 o o' h ρ x (g ρ st) := rfl
theorem kc2_some : kc2 o o' h ρ x (some (y, st)) = kc3 o' h ρ y (o x y st) := rfl
theorem kc3_true : kc3 o' h ρ y (some (.bl true, st)) = kc4 o' y (h ρ st) := rfl
theorem kc3_false : kc3 o' h ρ y (some (.bl false, st)) = some (.bl false, st) := rfl
theorem kc4_some : kc4 o' y (some (d, st)) = o' y d st := rfl
def kTru2 (st : Sto) (r : Option Bool) : Option (Bool × Sto) := r.map fun b => (b, st)
def kTru (r : Option (D × Sto)) : Option (Bool × Sto) := r.bind fun p => kTru2 p.2 (truD p.2 p.1)
theorem tOf_at : tOf f ρ st = kTru (f ρ st) := rfl
theorem kTru_some : kTru (some (d, st)) = kTru2 st (truD st d) := rfl
theorem kTru2_some : kTru2 st (some b) = some (b, st) := rfl
theorem truD_non : truD st .non = some false := rfl
theorem truD_bl : truD st (.bl b) = some b := rfl
theorem truD_int {k : Int} : truD st (.int k) = some (k != 0) := rfl
theorem truD_tup : truD st (.tup ds) = some (!ds.isEmpty) := rfl
def kAnd (t : MT) (ρ : Rho) (r : Option (Bool × Sto)) : Option (Bool × Sto) := r.bind fun p => if p.1 = true then t ρ p.2 else some (false, p.2)
def kOr (t : MT) (ρ : Rho) (r : Option (Bool × Sto)) : Option (Bool × Sto) := r.bind fun p => if p.1 = true then some (true, p.2) else t ρ p.2
def kNot (r : Option (Bool × Sto)) : Option (Bool × Sto) := r.map fun p => (!p.1, p.2)
theorem tAnd_at : tAnd t t' ρ st = kAnd t' ρ (t ρ st) := rfl
theorem kAnd_true : kAnd t ρ (some (true, st)) = t ρ st := rfl
theorem kAnd_false : kAnd t ρ (some (false, st)) = some (false, st) := rfl
theorem tOr_at : tOr t t' ρ st = kOr t' ρ (t ρ st) := rfl
theorem kOr_true : kOr t ρ (some (true, st)) = some (true, st) := rfl
theorem kOr_false : kOr t ρ (some (false, st)) = t ρ st := rfl
theorem tNot_at : tNot t ρ st = kNot (t ρ st) := rfl
theorem kNot_some : kNot (some (b, st)) = some (!b, st) := rfl
theorem tYes_at : tYesM ρ st = some (true, st) := rfl
def keAnd2 (g : ME) (ρ : Rho) (d : D) (st : Sto) (r : Option Bool) : Option (D × Sto) := r.bind fun k => if k = true then g ρ st else some (d, st)
def keAnd (g : ME) (ρ : Rho) (r : Option (D × Sto)) : Option (D × Sto) := r.bind fun p => keAnd2 g ρ p.1 p.2 (truD p.2 p.1)
theorem eAnd_at : eAnd f g ρ st = keAnd g ρ (f ρ st) := rfl
theorem keAnd_some : keAnd g ρ (some (d, st)) = keAnd2 g ρ d st (truD st d) := rfl
theorem keAnd2_true : keAnd2 g ρ d st (some true) = g ρ st := rfl
theorem keAnd2_false : keAnd2 g ρ d st (some false) = some (d, st) := rfl
def keOr2 (g : ME) (ρ : Rho) (d : D) (st : Sto) (r : Option Bool) : Option (D × Sto) := r.bind fun k => if k = true then some (d, st) else g ρ st
def keOr (g : ME) (ρ : Rho) (r : Option (D × Sto)) : Option (D × Sto) := r.bind fun p => keOr2 g ρ p.1 p.2 (truD p.2 p.1)
theorem eOr_at : eOr f g ρ st = keOr g ρ (f ρ st) := rfl
theorem keOr_some : keOr g ρ (some (d, st)) = keOr2 g ρ d st (truD st d) := rfl
theorem keOr2_true : keOr2 g ρ d st (some true) = some (d, st) := rfl
theorem keOr2_false : keOr2 g ρ d st (some false) = g ρ st := rfl
def keNot2 (st : Sto) (r : Option Bool) : Option (D × Sto) := r.map fun k => (.bl (!k), st)
def keNot (r : Option (D × Sto)) : Option (D × Sto) := r.bind fun p => keNot2 p.2 (truD p.2 p.1)
theorem eNot_at : eNot f ρ st = keNot (f ρ st) := rfl
theorem keNot_some : keNot (some (d, st)) = keNot2 st (truD st d) := rfl
theorem keNot2_some : keNot2 st (some b) = some (.bl (!b), st) := rfl
def keIf (f g : ME) (ρ : Rho) (r : Option (Bool × Sto)) : Option (D × Sto) := r.bind fun p => if p.1 = true then f ρ p.2 else g ρ p.2
theorem eIf_at : eIf t f g ρ st = keIf f g ρ (t ρ st) := rfl
theorem keIf_true : keIf f g ρ (some (true, st)) = f ρ st := rfl
theorem keIf_false : keIf f g ρ (some (false, st)) = g ρ st := rfl
def ka2 (d : D) (r : Option (List D × Sto)) : Option (List D × Sto) := r.bind fun q => some (d :: q.1, q.2)
def ka1 (g : MA) (ρ : Rho) (r : Option (D × Sto)) : Option (List D × Sto) := r.bind fun p => ka2 p.1 (g ρ p.2)
theorem aNil_at : aNil ρ st = some ([], st) := rfl
theorem aCons_at : aCons f ga ρ st = ka1 ga ρ (f ρ st) := rfl
theorem ka1_some : ka1 ga ρ (some (d, st)) = ka2 d (ga ρ st) := rfl
theorem ka2_some : ka2 d (some (ds, st)) = some (d :: ds, st) := rfl
def kTup (r : Option (List D × Sto)) : Option (D × Sto) := r.bind fun p => if p.1.length ≤ LIM then some (.tup p.1, p.2) else none
theorem eTup_at : eTup ga ρ st = kTup (ga ρ st) := rfl
theorem kTup_some : kTup (some (ds, st)) = if ds.length ≤ LIM then some (.tup ds, st) else none := rfl
theorem kTup_0 : kTup (some ([], st)) = some (.tup [], st) := rfl
theorem kTup_1 {a : D} : kTup (some ([a], st)) = some (.tup [a], st) := rfl
theorem kTup_2 {a b : D} : kTup (some ([a, b], st)) = some (.tup [a, b], st) := rfl
theorem kTup_3 {a b c : D} : kTup (some ([a, b, c], st)) = some (.tup [a, b, c], st) := rfl
theorem kTup_4 {a b c d : D} : kTup (some ([a, b, c, d], st)) = some (.tup [a, b, c, d], st) := rfl
theorem kTup_5 {a b c d e : D} : kTup (some ([a, b, c, d, e], st)) = some (.tup [a, b, c, d, e], st) := rfl
theorem kTup_6 {a b c d e f : D} : kTup (some ([a, b, c, d, e, f], st)) = some (.tup [a, b, c, d, e, f], st) := rfl
def kLst (r : Option (List D × Sto)) : Option (D × Sto) := r.bind fun p => if p.1.length ≤ LIM then some (.ref p.2.length, p.2 ++ [.lst p.1]) else none
theorem eLst_at : eLst ga ρ st = kLst (ga ρ st) := rfl
theorem kLst_some : kLst (some (ds, st)) = if ds.length ≤ LIM then some (.ref st.length, st ++ [.lst ds]) else none := rfl
theorem kLst_0 : kLst (some ([], st)) = some (.ref st.length, st ++ [.lst []]) := rfl
theorem kLst_1 {a : D} : kLst (some ([a], st)) = some (.ref st.length, st ++ [.lst [a]]) := rfl
theorem kLst_2 {a b : D} : kLst (some ([a, b], st)) = some (.ref st.length, st ++ [.lst [a, b]]) := rfl
theorem kLst_3 {a b c : D} : kLst (some ([a, b, c], st)) = some (.ref st.length, st ++ [.lst [a, b, c]]) := rfl
theorem kLst_4 {a b c d : D} : kLst (some ([a, b, c, d], st)) = some (.ref st.length, st ++ [.lst [a, b, c, d]]) := rfl
theorem eDic0_at : eDic0 ρ st = some (.ref st.length, st ++ [.dic []]) := rfl
def kCall (F : FN) (r : Option (List D × Sto)) : Option (D × Sto) := r.bind fun p => F p.1 p.2
theorem eCall_at : eCall F ga ρ st = kCall F (ga ρ st) := rfl
theorem kCall_some : kCall F (some (ds, st)) = F ds st := rfl
theorem o1_at {o : D → Sto → Option D} : o1 o [d] st = kVal st (o d st) := rfl
def kIsi (ns : List Ty) (st : Sto) (r : Option Ty) : Option (D × Sto) := r.map fun t => (.bl (ns.any fun n => t.isa n), st)
theorem isiO_at {ns : List Ty} : isiO ns d st = kIsi ns st (tyD st d) := rfl
theorem kIsi_some {ns : List Ty} {t : Ty} : kIsi ns st (some t) = some (.bl (ns.any fun n => t.isa n), st) := rfl
theorem tyD_non : tyD st .non = some .non := rfl
theorem tyD_bl : tyD st (.bl b) = some .bl := rfl
theorem tyD_int {k : Int} : tyD st (.int k) = some .int := rfl
theorem tyD_str {k : List Nat} : tyD st (.str k) = some .str := rfl
theorem tyD_tup : tyD st (.tup ds) = some .tup := rfl
def kbm2 (o : D → FN) (d : D) (r : Option (List D × Sto)) : Option (D × Sto) := r.bind fun q => o d q.1 q.2
def kbm1 (chk : Sto → D → Bool) (o : D → FN) (ga : MA) (ρ : Rho) (r : Option (D × Sto)) : Option (D × Sto) := r.bind fun p => if chk p.2 p.1 = true then kbm2 o p.1 (ga ρ p.2) else none
theorem eBM_at {chk : Sto → D → Bool} {o : D → FN} : eBM chk o f ga ρ st = kbm1 chk o ga ρ (f ρ st) := rfl
theorem kbm1_some {chk : Sto → D → Bool} {o : D → FN} : kbm1 chk o ga ρ (some (d, st)) = if chk st d = true then kbm2 o d (ga ρ st) else none := rfl
theorem kbm2_some {o : D → FN} : kbm2 o d (some (ds, st)) = o d ds st := rfl
def ks4 (x : D) (lo : Option Int) (r : Option (Option Int × Sto)) : Option (D × Sto) := r.bind fun z => slO x lo z.1 z.2
def ks3 (q : MO) (ρ : Rho) (x : D) (r : Option (Option Int × Sto)) : Option (D × Sto) := r.bind fun y => ks4 x y.1 (q ρ y.2)
def ks2 (p q : MO) (ρ : Rho) (r : Option (D × Sto)) : Option (D × Sto) := r.bind fun x => ks3 q ρ x.1 (p ρ x.2)
theorem eSl_at {p q : MO} : eSl f p q ρ st = ks2 p q ρ (f ρ st) := rfl
theorem ks2_some {p q : MO} : ks2 p q ρ (some (x, st)) = ks3 q ρ x (p ρ st) := rfl
theorem ks3_some {q : MO} {lo : Option Int} : ks3 q ρ x (some (lo, st)) = ks4 x lo (q ρ st) := rfl
theorem ks4_some {lo hi : Option Int} : ks4 x lo (some (hi, st)) = slO x lo hi st := rfl
def kSome (r : Option (D × Sto)) : Option (Option Int × Sto) := r.bind fun p => match p.1 with
  | .int i => some (some i, p.2)
  | _ => none
theorem oNone_at : oNone ρ st = some (none, st) := rfl
theorem oSome_at : oSome f ρ st = kSome (f ρ st) := rfl
theorem kSome_int {k : Int} : kSome (some (.int k, st)) = some (some k, st) := rfl
theorem slO_str {k : List Nat} {lo hi : Option Int} : slO (.str k) lo hi st = if k.length ≤ LIM then some (.str (cutG k lo hi), st) else none := rfl
abbrev RS := Option (Fl × Rho × Sto)
def kSeq (v : MS) (r : RS) : RS := r.bind fun q => match q.1 with
  | .nx => v q.2.1 q.2.2
  | _ => some q
theorem sSeq_at : sSeq u v ρ st = kSeq v (u ρ st) := rfl
theorem kSeq_nx : kSeq v (some (.nx, ρ, st)) = v ρ st := rfl
theorem kSeq_rt : kSeq v (some (.rt d, ρ, st)) = some (.rt d, ρ, st) := rfl
theorem kSeq_bk : kSeq v (some (.bk, ρ, st)) = some (.bk, ρ, st) := rfl
theorem kSeq_ct : kSeq v (some (.ct, ρ, st)) = some (.ct, ρ, st) := rfl
theorem sNext_at : sNext ρ st = some (.nx, ρ, st) := rfl
theorem sBreak_at : sBreak ρ st = some (.bk, ρ, st) := rfl
theorem sCont_at : sCont ρ st = some (.ct, ρ, st) := rfl
theorem sRetN_at : sRetN ρ st = some (.rt .non, ρ, st) := rfl
def kRet (ρ : Rho) (r : Option (D × Sto)) : RS := r.map fun p => (.rt p.1, ρ, p.2)
theorem sRet_at : sRet f ρ st = kRet ρ (f ρ st) := rfl
theorem kRet_some : kRet ρ (some (d, st)) = some (.rt d, ρ, st) := rfl
def kExpr (ρ : Rho) (r : Option (D × Sto)) : RS := r.map fun p => (.nx, ρ, p.2)
theorem sExpr_at : sExpr f ρ st = kExpr ρ (f ρ st) := rfl
theorem kExpr_some : kExpr ρ (some (d, st)) = some (.nx, ρ, st) := rfl
def kSet (i : Nat) (ρ : Rho) (r : Option (D × Sto)) : RS := r.map fun p => (.nx, ρ.set i (some p.1), p.2)
theorem sSet_at : sSet i f ρ st = kSet i ρ (f ρ st) := rfl
theorem kSet_some : kSet i ρ (some (d, st)) = some (.nx, ρ.set i (some d), st) := rfl
def kIf (u v : MS) (ρ : Rho) (r : Option (Bool × Sto)) : RS := r.bind fun p => if p.1 = true then u ρ p.2 else v ρ p.2
theorem sIf_at : sIf t u v ρ st = kIf u v ρ (t ρ st) := rfl
theorem kIf_true : kIf u v ρ (some (true, st)) = u ρ st := rfl
theorem kIf_false : kIf u v ρ (some (false, st)) = v ρ st := rfl
def kPar2 (i j : Nat) (ρ : Rho) (r : Option (List D × Sto)) : RS := r.bind fun p => match p.1 with
  | [x, y] => some (.nx, (ρ.set i (some x)).set j (some y), p.2)
  | _ => none
theorem sPar2_k : sPar2 i j ga ρ st = kPar2 i j ρ (ga ρ st) := rfl
theorem kPar2_some : kPar2 i j ρ (some ([x, y], st)) = some (.nx, (ρ.set i (some x)).set j (some y), st) := rfl
def kPar3 (i j l : Nat) (ρ : Rho) (r : Option (List D × Sto)) : RS := r.bind fun p => match p.1 with
  | [x, y, z] => some (.nx, ((ρ.set i (some x)).set j (some y)).set l (some z), p.2)
  | _ => none
theorem sPar3_k : sPar3 i j l ga ρ st = kPar3 i j l ρ (ga ρ st) := rfl
theorem kPar3_some : kPar3 i j l ρ (some ([x, y, d], st)) = some (.nx, ((ρ.set i (some x)).set j (some y)).set l (some d), st) := rfl
def kAsg2 (st : Sto) (r : Option Rho) : RS := r.map fun ρ' => (.nx, ρ', st)
def kAsg (m : MG) (ρ : Rho) (r : Option (D × Sto)) : RS := r.bind fun p => kAsg2 p.2 (m p.1 ρ)
theorem sAsg_at : sAsg f m ρ st = kAsg m ρ (f ρ st) := rfl
theorem kAsg_some : kAsg m ρ (some (d, st)) = kAsg2 st (m d ρ) := rfl
theorem kAsg2_some : kAsg2 st (some ρ) = some (.nx, ρ, st) := rfl
theorem mName_at : mName i d ρ = some (ρ.set i (some d)) := rfl
theorem mTup_at {n : Nat} {w : List D → Rho → Option Rho} : mTup n w (.tup ds) ρ = if ds.length = n then w ds ρ else none := rfl
theorem mTup_2 {a b : D} {w : List D → Rho → Option Rho} : mTup 2 w (.tup [a, b]) ρ = w [a, b] ρ := rfl
theorem mTup_3 {a b c : D} {w : List D → Rho → Option Rho} : mTup 3 w (.tup [a, b, c]) ρ = w [a, b, c] ρ := rfl
def kmCons (n : List D → Rho → Option Rho) (ds : List D) (r : Option Rho) : Option Rho := r.bind fun ρ1 => n ds ρ1
theorem mCons_at {w : List D → Rho → Option Rho} : mCons m w (d :: ds) ρ = kmCons w ds (m d ρ) := rfl
theorem kmCons_some {w : List D → Rho → Option Rho} : kmCons w ds (some ρ) = w ds ρ := rfl
theorem mNil_at : mNil [] ρ = some ρ := rfl
def kp4 (ρ : Rho) (r : Option Sto) : RS := r.map fun st' => (.nx, ρ, st')
def kp3 (ρ : Rho) (d x : D) (r : Option (D × Sto)) : RS := r.bind fun y => kp4 ρ (setO x y.1 d y.2)
def kp2 (fi : ME) (ρ : Rho) (d : D) (r : Option (D × Sto)) : RS := r.bind fun x => kp3 ρ d x.1 (fi ρ x.2)
def kp1 (fo fi : ME) (ρ : Rho) (r : Option (D × Sto)) : RS := r.bind fun p => kp2 fi ρ p.1 (fo ρ p.2)
theorem sPut_at {fo fi : ME} : sPut fo fi f ρ st = kp1 fo fi ρ (f ρ st) := rfl
theorem kp1_some {fo fi : ME} : kp1 fo fi ρ (some (d, st)) = kp2 fi ρ d (fo ρ st) := rfl
theorem kp2_some {fi : ME} : kp2 fi ρ d (some (x, st)) = kp3 ρ d x (fi ρ st) := rfl
theorem kp3_some : kp3 ρ d x (some (y, st)) = kp4 ρ (setO x y d st) := rfl
theorem kp4_some : kp4 ρ (some st) = some (.nx, ρ, st) := rfl
def kFn (r : RS) : Option (D × Sto) := match r with
  | some (.rt d, _, st') => some (d, st')
  | some (.nx, _, st') => some (.non, st')
  | _ => none
theorem kFn_rt : kFn (some (.rt d, ρ, st)) = some (d, st) := rfl
theorem kFn_nx : kFn (some (.nx, ρ, st)) = some (.non, st) := rfl
theorem mkFn_0 : mkFn N 0 u [] st = kFn (u (List.replicate N none) st) := rfl
theorem mkFn_1 {a : D} : mkFn N 1 u [a] st = kFn (u (some a :: List.replicate (N - 1) none) st) := rfl
theorem mkFn_2 {a b : D} : mkFn N 2 u [a, b] st = kFn (u (some a :: some b :: List.replicate (N - 2) none) st) := rfl
theorem mkFn_3 {a b c : D} : mkFn N 3 u [a, b, c] st = kFn (u (some a :: some b :: some c :: List.replicate (N - 3) none) st) := rfl
theorem mkFn_4 {a b c d : D} : mkFn N 4 u [a, b, c, d] st = kFn (u (some a :: some b :: some c :: some d :: List.replicate (N - 4) none) st) := rfl
theorem mkFn_5 {a b c d e : D} : mkFn N 5 u [a, b, c, d, e] st = kFn (u (some a :: some b :: some c :: some d :: some e :: List.replicate (N - 5) none) st) := rfl
theorem sWhile_at : sWhile t u ρ st = loopW t u FUEL ρ st := rfl
end
end MP

set_option maxRecDepth 100000
namespace MP
open PySem PySem.Spec L2
theorem at_end {α : Type} (xs : List α) (y : α) (r : List α) : (xs ++ y :: r)[xs.length]? = some y := by simp
theorem set_end {α : Type} (xs : List α) (y z : α) (r : List α) : (xs ++ y :: r).set xs.length z = xs ++ z :: r := by simp
theorem myL_end (st : Sto) (acc : List D) (g : Sto) : myL (st ++ .lst acc :: g) st.length = some acc := by
  unfold myL
  rw [at_end]
theorem rdL_end (st : Sto) (acc : List D) (g : Sto) : rdL (st ++ .lst acc :: g) st.length = some acc := by
  unfold rdL
  rw [at_end]
theorem loopC_grow {m : MG} {f : ME} {ρ0 : Rho} {st : Sto} {v : D → D} : ∀ (ds : List D) (acc : List D) (g : Sto),
    (∀ d ∈ ds, ∀ acc g, ∃ ρ1 g', m d ρ0 = some ρ1 ∧ f ρ1 (st ++ .lst acc :: g) = some (v d, st ++ .lst acc :: (g ++ g'))) →
    acc.length + ds.length ≤ LIM → ∃ g', loopC (fun _ => True) m tYesM f ρ0 st.length ds (st ++ .lst acc :: g) = some (st ++ .lst (acc ++ ds.map v) :: g')
  | [], acc, g, _, _ => ⟨g, by simp [loopC]⟩
  | d :: r, acc, g, h, hl => by
    rw [List.length_cons] at hl
    obtain ⟨ρ1, g1, e1, e2⟩ := h d (.head _) acc g
    obtain ⟨g2, e3⟩ := loopC_grow r (acc ++ [v d]) (g ++ g1) (fun x hx => h x (.tail _ hx)) (by rw [List.length_append, List.length_singleton]; omega)
    refine ⟨g2, ?_⟩
    unfold loopC
    rw [if_pos trivial, e1, Option.bind_some]
    show (Option.bind (some (true, st ++ .lst acc :: g)) _) = _
    rw [Option.bind_some]
    simp only [if_true]
    rw [e2, Option.bind_some]
    simp only [myL_end]
    rw [if_pos (by omega), set_end, e3]
    simp [List.append_assoc]
theorem eLc_grow {fi : MI} {m : MG} {f : ME} {ρ : Rho} {vs : List Nat} {st : Sto} {v : D → D} {ds : List D} (hi : fi ρ st = some ((ds, fun _ => True), st)) (hl : ds.length ≤ LIM)
    (h : ∀ d ∈ ds, ∀ acc g, ∃ ρ1 g', m d (wipeD ρ vs) = some ρ1 ∧ f ρ1 (st ++ .lst acc :: g) = some (v d, st ++ .lst acc :: (g ++ g'))) :
    ∃ g', eLc vs fi m tYesM f ρ st = some (.ref st.length, st ++ .lst (ds.map v) :: g') := by
  obtain ⟨g, e⟩ := loopC_grow ds [] [] h (by simpa using hl)
  refine ⟨g, ?_⟩
  unfold eLc
  rw [hi, Option.bind_some]
  show Option.map _ (loopC (fun _ => True) m tYesM f (wipeD ρ vs) st.length ds (st ++ [.lst []])) = _
  rw [e]
  rfl
theorem loopC_calm {m : MG} {f : ME} {ρ0 : Rho} {st : Sto} {v : D → D} : ∀ (ds : List D) (acc : List D),
    (∀ d ∈ ds, ∀ acc, ∃ ρ1, m d ρ0 = some ρ1 ∧ f ρ1 (st ++ [.lst acc]) = some (v d, st ++ [.lst acc])) →
    acc.length + ds.length ≤ LIM → loopC (fun _ => True) m tYesM f ρ0 st.length ds (st ++ [.lst acc]) = some (st ++ [.lst (acc ++ ds.map v)])
  | [], acc, _, _ => by simp [loopC]
  | d :: r, acc, h, hl => by
    rw [List.length_cons] at hl
    obtain ⟨ρ1, e1, e2⟩ := h d (.head _) acc
    have e3 := loopC_calm r (acc ++ [v d]) (fun x hx => h x (.tail _ hx)) (by rw [List.length_append, List.length_singleton]; omega)
    unfold loopC
    rw [if_pos trivial, e1, Option.bind_some]
    show (Option.bind (some (true, st ++ [.lst acc])) _) = _
    rw [Option.bind_some]
    simp only [if_true]
    rw [e2, Option.bind_some]
    simp only [myL_end]
    rw [if_pos (by omega), set_end, e3]
    simp [List.append_assoc]
theorem eLc_calm {fi : MI} {m : MG} {f : ME} {ρ : Rho} {vs : List Nat} {st : Sto} {v : D → D} {ds : List D} (hi : fi ρ st = some ((ds, fun _ => True), st)) (hl : ds.length ≤ LIM)
    (h : ∀ d ∈ ds, ∀ acc, ∃ ρ1, m d (wipeD ρ vs) = some ρ1 ∧ f ρ1 (st ++ [.lst acc]) = some (v d, st ++ [.lst acc])) :
    eLc vs fi m tYesM f ρ st = some (.ref st.length, st ++ [.lst (ds.map v)]) := by
  have e := loopC_calm ds [] h (by simpa using hl)
  unfold eLc
  rw [hi, Option.bind_some]
  show Option.map _ (loopC (fun _ => True) m tYesM f (wipeD ρ vs) st.length ds (st ++ [.lst []])) = _
  rw [e]
  rfl
def kR1 (r : Option (List D × Sto)) : Option ((List D × (Sto → Prop)) × Sto) := r.bind fun p => match p.1 with
  | [.int n] => if -(LIM : Int) ≤ n ∧ n ≤ (LIM : Nat) then some ((rngD 0 n.toNat, fun _ => True), p.2) else none
  | _ => none
theorem iR1_at {g : MA} {ρ : Rho} {st : Sto} : iR1 g ρ st = kR1 (g ρ st) := rfl
theorem kR1_some {n : Nat} {st : Sto} (h : n ≤ LIM) : kR1 (some ([.int (n : Int)], st)) = some ((rngD 0 n, fun _ => True), st) := by
  unfold kR1
  rw [Option.bind_some]
  simp only
  rw [if_pos ⟨by omega, by omega⟩, Int.toNat_natCast]
theorem rngD_length (lo : Int) (n : Nat) : (rngD lo n).length = n := by simp [rngD]
theorem rngD_mem {n : Nat} {d : D} (h : d ∈ rngD 0 n) : ∃ k, k < n ∧ d = .int (k : Nat) := by
  unfold rngD at h
  obtain ⟨k, h1, h2⟩ := List.mem_map.mp h
  exact ⟨k, List.mem_range.mp h1, by rw [← h2, Int.zero_add]⟩
theorem bls_map (ds : List D) (b : D → Bool) : blsO (ds.map fun d => D.bl (b d)) = some (ds.map b) := by
  induction ds with
  | nil => rfl
  | cons d r ih =>
    show (blsO (r.map fun d => D.bl (b d))).map _ = _
    rw [ih]
    rfl
theorem allO_end (st : Sto) (ds : List D) (b : D → Bool) (g : Sto) : allO (.ref st.length) (st ++ .lst (ds.map fun d => D.bl (b d)) :: g) = some (.bl ((ds.map b).all id)) := by
  show Option.map _ ((rdL (st ++ .lst (ds.map fun d => D.bl (b d)) :: g) st.length).bind blsO) = _
  rw [rdL_end, Option.bind_some, bls_map]
  rfl
theorem lenO_tup (st : Sto) (ds : List D) : lenO (.tup ds) st = some (.int ds.length) := rfl
noncomputable def kF2 (m : MG) (u : MS) (r : List D) (q : RS) : RS := q.bind fun q => match q.1 with
  | .nx => loopF (fun _ => True) m u r q.2.1 q.2.2
  | .ct => loopF (fun _ => True) m u r q.2.1 q.2.2
  | .bk => some (.nx, q.2.1, q.2.2)
  | .rt d => some (.rt d, q.2.1, q.2.2)
noncomputable def kF1 (m : MG) (u : MS) (r : List D) (st : Sto) (q : Option Rho) : RS := q.bind fun ρ1 => kF2 m u r (u ρ1 st)
section
variable {m : MG} {u : MS} {r : List D} {st : Sto} {ρ : Rho} {d : D}
theorem loopF_nil : loopF (fun _ => True) m u [] ρ st = some (.nx, ρ, st) := by
  unfold loopF
  rw [if_pos trivial]
theorem loopF_cons : loopF (fun _ => True) m u (d :: r) ρ st = kF1 m u r st (m d ρ) := by
  conv => lhs; unfold loopF
  rw [if_pos trivial]
  rfl
theorem kF1_some : kF1 m u r st (some ρ) = kF2 m u r (u ρ st) := rfl
theorem kF2_nx : kF2 m u r (some (.nx, ρ, st)) = loopF (fun _ => True) m u r ρ st := rfl
theorem kF2_ct : kF2 m u r (some (.ct, ρ, st)) = loopF (fun _ => True) m u r ρ st := rfl
theorem kF2_bk : kF2 m u r (some (.bk, ρ, st)) = some (.nx, ρ, st) := rfl
theorem kF2_rt : kF2 m u r (some (.rt d, ρ, st)) = some (.rt d, ρ, st) := rfl
theorem sFor_run {fi : MI} {ds : List D} {st' : Sto} (h : fi ρ st = some ((ds, fun _ => True), st')) : sFor fi m u ρ st = loopF (fun _ => True) m u ds ρ st' := by
  unfold sFor
  rw [h]
  rfl
end
def PD : Nat → D → Prop
  | 0, _ => False
  | n + 1, .tup ds => ds.length ≤ LIM ∧ ∀ d ∈ ds, PD n d
  | _ + 1, .ref _ => False
  | _ + 1, _ => True
theorem eqO_int (st : Sto) (l m : Int) : eqO st (.int l) (.int m) = some (l == m) := by
  simp [eqO, DEEP, toP, PyData.eqv]
theorem eqO_bl (st : Sto) (l m : Bool) : eqO st (.bl l) (.bl m) = some (l == m) := by
  simp [eqO, DEEP, toP, PyData.eqv]
theorem eqO_str_self (st : Sto) (l : List Nat) : eqO st (.str l) (.str l) = some true := by
  simp [eqO, DEEP, toP, PyData.eqv]
theorem eqO_non (st : Sto) : eqO st .non .non = some true := by
  simp [eqO, DEEP, toP, PyData.eqv]
end MP

set_option maxRecDepth 100000
namespace MP
open PySem PySem.Spec L2
section
variable {st : Sto} {ρ : Rho} {d : D}
theorem kLst_6 {a b c d e f : D} : kLst (some ([a, b, c, d, e, f], st)) = some (.ref st.length, st ++ [.lst [a, b, c, d, e, f]]) := rfl
theorem kLst_7 {a b c d e f g : D} : kLst (some ([a, b, c, d, e, f, g], st)) = some (.ref st.length, st ++ [.lst [a, b, c, d, e, f, g]]) := rfl
theorem kLst_8 {a b c d e f g h : D} : kLst (some ([a, b, c, d, e, f, g, h], st)) = some (.ref st.length, st ++ [.lst [a, b, c, d, e, f, g, h]]) := rfl
theorem kLst_5 {a b c d e : D} : kLst (some ([a, b, c, d, e], st)) = some (.ref st.length, st ++ [.lst [a, b, c, d, e]]) := rfl
end
theorem atI_in {α : Type} {xs : List α} {i : Int} (h0 : 0 ≤ i) (h1 : i < xs.length) : ∃ x ∈ xs, atI xs i = some x := by
  obtain ⟨k, rfl⟩ := Int.eq_ofNat_of_zero_le h0
  have hk : k < xs.length := by omega
  exact ⟨xs[k], List.getElem_mem hk, atI_nat (List.getElem?_eq_getElem hk)⟩
theorem ixO_lst {st : Sto} {k : Nat} {ds : List D} {i : Int} (h : rdL st k = some ds) : ixO (.ref k) (.int i) st = atI ds i := by
  simp only [ixO, h]
theorem lenO_lst {st : Sto} {k : Nat} {ds : List D} (h : rdL st k = some ds) : lenO (.ref k) st = some (.int ds.length) := by
  simp only [lenO, h]
theorem ixO_end {st g : Sto} {ds : List D} {i : Int} : ixO (.ref st.length) (.int i) (st ++ .lst ds :: g) = atI ds i := ixO_lst (rdL_end st ds g)
theorem myL_rdL {st : Sto} {k : Nat} {ds : List D} (h : myL st k = some ds) : rdL st k = some ds := by
  unfold MP.myL at h
  unfold MP.rdL
  split at h
  · rename_i e
    rw [e]
    exact h
  · cases h
theorem rdL_lt {st : Sto} {k : Nat} {ds : List D} (h : rdL st k = some ds) : k < st.length := by
  unfold MP.rdL at h
  by_cases hk : k < st.length
  · exact hk
  · rw [List.getElem?_eq_none (by omega)] at h
    cases h
theorem rdL_grow {st g : Sto} {k : Nat} {ds : List D} (h : rdL st k = some ds) : rdL (st ++ g) k = some ds := by
  have := rdL_lt h
  unfold MP.rdL at h ⊢
  rw [List.getElem?_append_left this]
  exact h
theorem myL_grow {st g : Sto} {k : Nat} {ds : List D} (h : myL st k = some ds) : myL (st ++ g) k = some ds := by
  have := rdL_lt (myL_rdL h)
  unfold MP.myL at h ⊢
  rw [List.getElem?_append_left this]
  exact h
theorem rdL_set_ne {st : Sto} {j k : Nat} {o : Ob} (h : j ≠ k) : rdL (st.set j o) k = rdL st k := by
  unfold MP.rdL
  rw [List.getElem?_set_ne h]
theorem myL_set_ne {st : Sto} {j k : Nat} {o : Ob} (h : j ≠ k) : myL (st.set j o) k = myL st k := by
  unfold MP.myL
  rw [List.getElem?_set_ne h]
theorem myL_set {st : Sto} {j : Nat} {ds : List D} (h : j < st.length) : myL (st.set j (.lst ds)) j = some ds := by
  unfold MP.myL
  rw [List.getElem?_set_self h]
theorem setO_lst {st : Sto} {k i : Nat} {ds : List D} {d : D} (h : myL st k = some ds) (hi : i < ds.length) : setO (.ref k) (.int (i : Nat)) d st = some (st.set k (.lst (ds.set i d))) := by
  have e : ixN ds.length (i : Int) = some i := by
    unfold ixN
    rw [if_pos (by omega), if_pos (by omega), Int.toNat_natCast]
  simp only [setO, h, e, Option.map_some]
theorem strs_map (ls : List (List Nat)) : strsO (ls.map D.str) = some ls := by
  induction ls with
  | nil => rfl
  | cons d r ih =>
    show (strsO (r.map D.str)).map _ = _
    rw [ih]
    rfl
theorem joinD_nil (ls : List (List Nat)) : joinD [] ls = ls.flatten := by
  induction ls with
  | nil => rfl
  | cons p r ih =>
    cases r with
    | nil => simp [joinD, TL.joinL]
    | cons q r =>
      show p ++ ([] ++ TL.joinL [] (q :: r)) = _
      have : TL.joinL [] (q :: r) = (q :: r).flatten := ih
      rw [this]
      rfl
theorem join_end {st g : Sto} {s : List Nat} {ls : List (List Nat)} (h : (ls.map List.length).sum + ls.length * s.length ≤ 16000000) : joinM (.str s) [.ref st.length] (st ++ .lst (ls.map D.str) :: g) = some (.str (joinD s ls), st ++ .lst (ls.map D.str) :: g) := by
  show ((rdL (st ++ .lst (ls.map D.str) :: g) st.length).bind strsO).bind _ = _
  rw [rdL_end, Option.bind_some, strs_map, Option.bind_some, if_pos h]
theorem cutG_len {α : Type} (xs : List α) (lo hi : Option Int) : (cutG xs lo hi).length ≤ xs.length := by
  unfold cutG
  rw [List.length_take, List.length_drop]
  omega
theorem atI_map {α β : Type} (xs : List α) (f : α → β) (i : Int) : atI (xs.map f) i = (atI xs i).map f := by
  unfold L2.atI
  rw [List.length_map]
  cases L2.ixN xs.length i with
  | none => rfl
  | some j => simp
theorem ixO_str {st : Sto} {l : List Nat} {i : Int} (h : l.length ≤ LIM) : ixO (.str l) (.int i) st = (atI l i).map fun c => .str [c] := by
  simp only [ixO, h, if_true]
end MP

set_option maxRecDepth 100000
namespace MP
open PySem PySem.Spec PyProof.Rows L2
section
variable {X : Cx} {cad : Cad} {e a b : Expr} {f g fo fv : ME} {s : Stmt} {pos p : Pos} {ss : List Stmt}
def eNo : ME := fun _ _ => none
def sNo : MS := fun _ _ => none
theorem ie_no : IE X cad e eNo := ⟨fun pins s σ H Q I h => by
  obtain ⟨as, st, ρ, d, st', R, E, q, P⟩ := h
  cases q⟩
theorem is_no : ISt X cad s sNo := ⟨fun pins sh σ H D I h => by
  obtain ⟨as, st, ρ, fl, ρ', st', R, E, q, P⟩ := h
  cases q⟩
def putFD (f : Str) (d : D) : List (Str × D) → List (Str × D)
  | [] => [(f, d)]
  | (g, x) :: r => if g = f then (g, d) :: r else (g, x) :: putFD f d r
abbrev FR (K : PySem.W.Frag) (as : List Addr) (H : Hp) : List (Str × D) → List (Str × V) → Prop := Paired (fun (p : Str × D) (q : Str × V) => p.1 = q.1 ∧ VR K as H p.2 q.2)
theorem FR.lookup {K : PySem.W.Frag} {as : List Addr} {H : Hp} {f : Str} {d : D} : ∀ {fs : List (Str × D)} {xs : List (Str × V)}, FR K as H fs xs → fs.lookup f = some d → ∃ v, xs.lookup f = some v ∧ VR K as H d v
  | _, _, .nil, e => by cases e
  | (g, x) :: r, (g', v) :: r', .cons h t, e => by
    obtain ⟨h1, h2⟩ := h
    cases (show g = g' from h1)
    by_cases hg : (f == g) = true
    · simp only [List.lookup, hg] at e ⊢
      cases e
      exact ⟨v, rfl, h2⟩
    · have hg' : (f == g) = false := by
        cases hb : (f == g) with
        | true => exact absurd hb hg
        | false => rfl
      simp only [List.lookup, hg'] at e ⊢
      exact FR.lookup t e
theorem FR.put {K : PySem.W.Frag} {as : List Addr} {H : Hp} {f : Str} {d : D} {v : V} (r : VR K as H d v) : ∀ {fs : List (Str × D)} {xs : List (Str × V)}, FR K as H fs xs → FR K as H (putFD f d fs) (putF f v xs)
  | _, _, .nil => .cons ⟨rfl, r⟩ .nil
  | (g, x) :: fs, (g', y) :: xs, .cons h t => by
    obtain ⟨h1, h2⟩ := h
    cases (show g = g' from h1)
    show FR K as H (if g = f then (g, d) :: fs else (g, x) :: putFD f d fs) (if g = f then (g, v) :: xs else (g, y) :: putF f v xs)
    by_cases hg : g = f
    · rw [if_pos hg, if_pos hg]
      exact .cons ⟨rfl, r⟩ t
    · rw [if_neg hg, if_neg hg]
      exact .cons ⟨rfl, h2⟩ (FR.put r t)
theorem FR.length {K : PySem.W.Frag} {as : List Addr} {H : Hp} : ∀ {fs : List (Str × D)} {xs : List (Str × V)}, FR K as H fs xs → fs.length = xs.length
  | _, _, .nil => rfl
  | _, _, .cons _ t => by rw [List.length_cons, List.length_cons, FR.length t]
structure FldF (K : PySem.W.Frag) (cad : Cad) (cs : List Nat) (f : Str) : Prop where
  at_ : ∀ c ∈ cs, Cls K (cad c) ∧ NoAttr K (cad c) f
def fldO (cs : List Nat) (f : Str) (x : D) (st : Sto) : Option D := match x with
  | .ref k => match st[k]? with
    | some (.ins c fs) => if c ∈ cs then fs.lookup f else none
    | _ => none
  | _ => none
def fldM (cs : List Nat) (f : Str) : D → Sto → Option (D × Sto) := fun x st => (fldO cs f x st).map fun d => (d, st)
theorem fldO_to {K : PySem.W.Frag} {as : List Addr} {st : Sto} {H : Hp} {cs : List Nat} {fn : Str} {x d : D} {v : V} (T : FldF K cad cs fn) (R : Rel K cad as st H) (r : VR K as H x v) (e : fldO cs fn x st = some d) :
    ∃ a C dx fs w, v = .ref a ∧ H a = some (.ins C dx fs) ∧ Cls K C ∧ NoAttr K C fn ∧ fs.lookup fn = some w ∧ VR K as H d w := by
  cases r with
  | @ref k a ha =>
    simp only [fldO] at e
    split at e
    · rename_i c fs e1
      split at e
      · rename_i hc
        obtain ⟨dx, xs, q, rr⟩ := R.ob k _ a e1 ha
        obtain ⟨w, hw, rw'⟩ := FR.lookup rr e
        obtain ⟨h1, h2⟩ := T.at_ c hc
        exact ⟨a, _, dx, xs, w, rfl, q, h1, h2, hw, rw'⟩
      · cases e
    · cases e
  | _ => cases e
theorem ie_fld {cs : List Nat} {fn : Str} (T : FldF X.K cad cs fn) (ha : IE X cad a g) (hb : attributeBase a fn X.env (eval a X.env) = eval a X.env := by rfl) : IE X cad (.Attribute a fn pos) (eUn (fldM cs fn) g) := by
  refine pe_weak (pe_fld ha hb) fun σ H Q => ?_
  rintro ⟨as, st, ρ, d, st', R, E, q, P⟩
  obtain ⟨⟨x, st1⟩, e1, q⟩ := bind_some q
  obtain ⟨d', e2, e3⟩ := map_some q
  cases e3
  refine tI_run R E e1 fun as1 H1 v x1 R1 E1 r1 => ?_
  obtain ⟨a, C, dx, fs, w, rfl, h1, h2, h3, h4, r2⟩ := fldO_to T R1 r1 e2
  exact ⟨a, C, dx, fs, w, rfl, h1, h2, h3, h4, P as1 H1 w x1 R1 r2⟩
def setFO (cs : List Nat) (f : Str) (x d : D) (st : Sto) : Option Sto := match x with
  | .ref k => match st[k]? with
    | some (.ins c fs) => if c ∈ cs ∧ fs.length < 1000 then some (st.set k (.ins c (putFD f d fs))) else none
    | _ => none
  | _ => none
theorem setFO_to {K : PySem.W.Frag} {as : List Addr} {st st' : Sto} {H : Hp} {cs : List Nat} {fn : Str} {x d : D} {v w : V} (T : FldF K cad cs fn) (R : Rel K cad as st H) (r : VR K as H x v) (rd : VR K as H d w) (e : setFO cs fn x d st = some st') :
    ∃ a C dx fs, v = .ref a ∧ H a = some (.ins C dx fs) ∧ Cls K C ∧ NoAttr K C fn ∧ fs.length < 1000 ∧ Ext K as H as (upd H a (.ins C dx (putF fn w fs))) ∧ Rel K cad as st' (upd H a (.ins C dx (putF fn w fs))) := by
  cases r with
  | @ref k a ha =>
    simp only [setFO] at e
    split at e
    · rename_i c fs e1
      split at e
      · rename_i hc
        cases e
        obtain ⟨dx, xs, q, rr⟩ := R.ob k _ a e1 ha
        obtain ⟨h1, h2⟩ := T.at_ c hc.1
        have x6 : Ext K as H as (upd H a (.ins (cad c) dx (putF fn w xs))) := ⟨⟨[], by simp⟩, fun b ys h => sqT_write q (fun _ z => by cases z) (fun _ _ z => by cases z) h, fun _ _ _ h => frz_write q (fun _ _ z => by cases z) h⟩
        obtain ⟨R6, x7⟩ := R.write (u := .ins (cad c) dx (putF fn w xs)) (o' := .ins c (putFD fn d fs)) e1 ha rfl rfl ⟨dx, putF fn w xs, upd_same, Paired.map2 (fun _ _ z => ⟨z.1, z.2.mono x6⟩) (FR.put rd rr)⟩
        exact ⟨a, _, dx, xs, rfl, q, h1, h2, by rw [← FR.length rr]; exact hc.2, x6, R6⟩
      · cases e
    · cases e
  | _ => cases e
def sFldM (cs : List Nat) (f : Str) (fo fv : ME) : MS := fun ρ st => (fv ρ st).bind fun y => (fo ρ y.2).bind fun x => (setFO cs f x.1 y.1 x.2).map fun st' => (.nx, ρ, st')
theorem is_fld {cs : List Nat} {fn : Str} {p' : Pos} (T : FldF X.K cad cs fn) (ho : IE X cad a fo) (hv : IE X cad b fv) (hs : swapsWith b (some (.Attribute a fn p')) pos.line X.env = pure false := by rfl) :
    ISt X cad (.Assign [.Attribute a fn p'] b pos) (sFldM cs fn fo fv) := by
  refine ps_weak (ps_fld ho hv hs) fun Dn σ H => ?_
  rintro ⟨as, st, ρ, fl, ρ', st', R, E, q, P⟩
  obtain ⟨⟨y, st1⟩, e1, q⟩ := bind_some q
  obtain ⟨⟨x, st2⟩, e2, q⟩ := bind_some q
  obtain ⟨st3, e3, e4⟩ := map_some q
  cases e4
  refine tI_run R E e1 fun as1 H1 w x1 R1 E1 r1 => tI_run R1 E1 e2 fun as2 H2 v x2 R2 E2 r2 => ?_
  obtain ⟨a, C, dx, fs, rfl, h1, h2, h3, h4, x3, R3⟩ := setFO_to T R2 r2 (r1.mono x2) e3
  exact ⟨a, C, dx, fs, rfl, h1, h2, h3, h4, P as2 _ σ (x1.trans (x2.trans x3)) R3 (E2.mono x3)⟩
def sFldAddM (cs : List Nat) (f : Str) (fo : ME) (j : Int) : MS := fun ρ st => (fo ρ st).bind fun x => match fldO cs f x.1 x.2 with
  | some (.int i) => (setFO cs f x.1 (.int (i + j)) x.2).map fun st' => (.nx, ρ, st')
  | _ => none
theorem is_fldAdd {cs : List Nat} {fn : Str} {p' : Pos} {j : Int} {kd : Nat} {p3 : Pos} (T : FldF X.K cad cs fn) (ho : IE X cad a fo) : ISt X cad (.AugAssign (.Attribute a fn p') .Add (.Constant (.int j) kd p3) pos) (sFldAddM cs fn fo j) := by
  refine ps_weak (ps_fldaug ho pe_int in_add) fun Dn σ H => ?_
  rintro ⟨as, st, ρ, fl, ρ', st', R, E, q, P⟩
  obtain ⟨⟨x, st1⟩, e1, q⟩ := bind_some q
  simp only at q
  split at q
  · rename_i i e2
    obtain ⟨st3, e4, e5⟩ := map_some q
    cases e5
    refine tI_run R E e1 fun as1 H1 v x1 R1 E1 r1 => ?_
    obtain ⟨a, C, dx, fs, w, rfl, h1, h2, h3, h4, r2⟩ := fldO_to T R1 r1 e2
    cases r2
    obtain ⟨a', C', dx', fs', ea, g1, g2, g3, g4, x3, R3⟩ := setFO_to T R1 r1 (.int (i + j)) e4
    cases ea
    rw [h1] at g1
    cases g1
    exact ⟨a, C, dx, fs, _, rfl, h1, h2, h3, h4, i, j, rfl, rfl, dx, fs, h1, g4, P as1 _ σ (x1.trans x3) R3 (E1.mono x3)⟩
  · cases q
structure MkFact (P : Program) (w : World) (K : PySem.W.Frag) (mg : Str → Option Value) (base : Heap) (cad : Cad) (x : Str) (k : Nat) (c : Nat) (F : FN) : Prop where
  ex : ∃ (f : Addr) (fd : FuncData) (ps : List Str), Mk K (cad c) f ∧ FnOk P w K mg base CX0 k f fd ps (spOf K cad F) ∧ mg x = some (.ref (cad c)) ∧ Binds K fd ps []
def eMake (c : Nat) (F : FN) (g : MA) : ME := fun ρ st => (g ρ st).bind fun p => (F (.ref p.2.length :: p.1) (p.2 ++ [.ins c []])).bind fun q => match q.1 with
  | .non => some (.ref p.2.length, q.2)
  | _ => none
theorem ie_make {es : List Expr} {x : Str} {k c : Nat} {F : FN} {g : MA} (M : MkFact X.prog X.w X.K X.mg X.base cad x k c F) (hr : Room (k + 1) X.A) (hg : Gl X x) (ha : IA X cad (e :: es) g) (hdb : (x == ("__debug__" : Str)) = false := by decide)
    (he : starEach (e :: es) X.env = (false, eval e X.env) :: starEach es X.env := by rfl) (hpl : (backTo pos (starEach es X.env)).any (·.1) = false := by rfl) : IE X cad (.Call (.Name x p) (e :: es) [] pos) (eMake c F g) := by
  obtain ⟨fa, fd, ps, M, G, hm, hb⟩ := M.ex
  refine pe_weak (pe_make (E := E0) (dvs := []) M G hr hg hm hb .nil pass0 ha hdb he hpl) fun σ H Q => ?_
  rintro ⟨as, st, ρ, d, st', R, E, q, P⟩
  obtain ⟨⟨ys, st1⟩, e1, q⟩ := bind_some q
  obtain ⟨⟨z, st2⟩, e2, q⟩ := bind_some q
  simp only at q
  split at q
  · cases q
    refine tIA_run R E e1 fun as1 H1 vs x1 R1 E1 r1 => fun x dx hx hd hne => ?_
    have hx' : upd H1 dx (.own x) x = none := by rw [upd_ne (Ne.symm hne)]; exact hx
    have R2 := R1.fresh (u := .own x) hd
    have y2 : Ext X.K as1 H1 as1 (upd H1 dx (.own x)) := Ext.fresh hd
    have y3 : Ext X.K as1 (upd H1 dx (.own x)) (as1 ++ [x]) (upd (upd H1 dx (.own x)) x (.ins (cad c) dx [])) := Ext.fresh1 hx'
    have R3 : Rel X.K cad (as1 ++ [x]) (st1 ++ [.ins c []]) (upd (upd H1 dx (.own x)) x (.ins (cad c) dx [])) := R2.new hx' ⟨dx, [], upd_same, .nil⟩
    have ap : (as1 ++ [x])[st1.length]? = some x := by rw [← R1.len]; simp
    rw [List.append_nil]
    refine ⟨as1 ++ [x], st1 ++ [.ins c []], .ref st1.length :: ys, .non, _, R3, .cons (.ref ap) (r1.mono (y2.trans y3)), e2, fun as4 H4 v x4 R4 r4 => ?_⟩
    cases r4
    exact ⟨rfl, P as4 H4 (.ref x) (x1.trans (y2.trans (y3.trans x4))) R4 (.ref (x4.at ap))⟩
  · cases q
structure IsF (K : PySem.W.Frag) (cad : Cad) (n : Nat) (subs : List Nat) (all : Nat) : Prop where
  non : PySem.W.kitOne K (.type "NoneType") (.ref (cad n)) = some false
  own : ∀ c, c < all → PySem.W.kitOne K (.ref (cad c)) (.ref (cad n)) = some (decide (c ∈ subs))
  cls : ∀ c, c < all → Cls K (cad c) ∧ PySem.W.findIn K (.ref (cad c)) "__class__" = some (some (.builtin "object.__class__")) ∧ PySem.W.mroIn K (cad c) (.type "object") = some true
  hn : PySem.W.specialIn K (.builtin "object.__class__") "__get__" = some (some (.builtin "getset_descriptor.__get__"))
  htk : PySem.W.takesIn K (.builtin "object.__class__") = some true
def isCO (subs : List Nat) (all : Nat) (x : D) (st : Sto) : Option Bool := match x with
  | .non => some false
  | .ref k => match st[k]? with
    | some (.ins c _) => if c < all then some (decide (c ∈ subs)) else none
    | _ => none
  | _ => none
def isCM (subs : List Nat) (all : Nat) : D → Sto → Option (D × Sto) := fun x st => (isCO subs all x st).map fun b => (.bl b, st)
theorem ie_isC {y : Str} {n all : Nat} {subs : List Nat} {p2 : Pos} (T : IsF X.K cad n subs all) (hg : Gl X "isinstance") (hm : X.mg "isinstance" = none) (ha : IE X cad a f) (hgy : Gl X y) (hmy : X.mg y = some (.ref (cad n))) (hdy : (y == ("__debug__" : Str)) = false := by decide)
    (hs : starEach [a, .Name y p2] X.env = (false, eval a X.env) :: starEach [.Name y p2] X.env := by rfl) (hs2 : starEach [.Name y p2] X.env = [(false, eval (.Name y p2) X.env)] := by rfl)
    (hpl : (backTo pos (starEach [.Name y p2] X.env)).any (·.1) = false := by rfl) : IE X cad (.Call (.Name "isinstance" p) [a, .Name y p2] [] pos) (eUn (isCM subs all) f) := by
  refine pe_weak (pe_callB call_isi hg hm (by decide +kernel) (pa_cons ha (pa_cons (pe_glob hgy hmy (v := .ref (cad n)) rfl hdy) pa_nil hs2) hs) (by decide) (by decide) hs hpl) fun σ H Q => ?_
  rintro ⟨as, st, ρ, d, st', R, E, q, P⟩
  obtain ⟨⟨x, st1⟩, e1, q⟩ := bind_some q
  obtain ⟨b, e2, e3⟩ := map_some q
  cases e3
  refine tI_run R E e1 fun as1 H1 v x1 R1 E1 r1 => ?_
  have fin : ∀ t, TyX X.K H1 v t → PySem.W.kitOne X.K t (.ref (cad n)) = some b → rIsi X.K [v, .ref (cad n)] H1 Q := fun t ht hk => ⟨v, .ref (cad n), t, .ref (cad n), b, rfl, .own _, ht, hk, P as1 H1 (.bl b) x1 R1 (.bl b)⟩
  cases r1 with
  | non =>
    cases e2
    exact fin _ (.base .non) T.non
  | @ref k a ha =>
    simp only [isCO] at e2
    split at e2
    · rename_i c fs e4
      split at e2
      · rename_i hc
        cases e2
        obtain ⟨dx, xs, q, rr⟩ := R1.ob k _ a e4 ha
        obtain ⟨h1, h2, h3⟩ := T.cls c hc
        exact fin _ (.base (.ins q h1 h2 T.hn T.htk h3)) (T.own c hc)
      · cases e2
    · cases e2
  | _ => cases e2
def GTup (K : PySem.W.Frag) (mg : Str → Option Value) (x : Str) (d : D) : Prop := ∃ a, mg x = some (.ref a) ∧ ∀ as H, VR K as H d (.ref a)
theorem ie_gtup {x : Str} {d : D} (T : GTup X.K X.mg x d) (hg : Gl X x) (hdb : (x == ("__debug__" : Str)) = false := by decide) : IE X cad (.Name x pos) (eC d) := by
  obtain ⟨a, hm, hv⟩ := T
  refine pe_weak (pe_glob hg hm (v := .ref a) rfl hdb) fun σ H Q => ?_
  rintro ⟨as, st, ρ, d', st', R, E, q, P⟩
  cases q
  exact P as H (.ref a) .refl R (hv as H)
def getO (k : Nat) (y : D) (z : D) (st : Sto) : Option D := match myD st k, keyOf y with
  | some kvs, some key => some ((valD kvs key).getD z)
  | _, _ => none
def eGet1 (fo fk : ME) : ME := fun ρ st => (fo ρ st).bind fun x => match x.1 with
  | .ref k => if (myD x.2 k).isSome = true then (fk ρ x.2).bind fun y => (getO k y.1 .non y.2).map fun d => (d, y.2) else none
  | _ => none
def eGet2 (fo fk fd : ME) : ME := fun ρ st => (fo ρ st).bind fun x => match x.1 with
  | .ref k => if (myD x.2 k).isSome = true then (fk ρ x.2).bind fun y => (fd ρ y.2).bind fun z => (getO k y.1 z.1 z.2).map fun d => (d, z.2) else none
  | _ => none
theorem isD_of {K : PySem.W.Frag} {as : List Addr} {st : Sto} {H : Hp} {k : Nat} {a : Addr} (R : Rel K cad as st H) (h : (myD st k).isSome = true) (ha : as[k]? = some a) : IsD H a := by
  obtain ⟨kvs, e⟩ := Option.isSome_iff_exists.mp h
  obtain ⟨xs, q, _⟩ := R.myD e ha
  exact .inl ⟨xs, .inl q⟩
theorem getO_to {K : PySem.W.Frag} {as : List Addr} {st : Sto} {H : Hp} {k : Nat} {a : Addr} {y z d : D} {v w : V} (R : Rel K cad as st H) (ha : as[k]? = some a) (ry : VR K as H y v) (rz : VR K as H z w) (e : getO k y z st = some d) :
    ∃ o, DGet H a v o ∧ VR K as H d (o.getD w) := by
  unfold getO at e
  split at e
  · rename_i kvs key e1 e2
    cases e
    obtain ⟨xs, q, r⟩ := R.myD e1 ha
    refine ⟨valV xs key, ?_, ?_⟩
    · rw [keyOf_is ry e2]
      exact DGet.k q
    · have := r.val key
      revert this
      cases valD kvs key <;> cases valV xs key <;> intro this
      · exact rz
      · exact this.elim
      · exact this.elim
      · exact this
  · cases e
theorem ie_get1 {fk : ME} {apos : Pos} (hu : X.A.units + 64 < cLine) (ho : IE X cad a fo) (hk : IE X cad b fk) (m : M1 X a "get" apos b pos) : IE X cad (.Call (.Attribute a "get" apos) [b] [] pos) (eGet1 fo fk) := by
  refine pe_weak (pe_dget1 (by omega) ho hk m) fun σ H Q => ?_
  rintro ⟨as, st, ρ, d, st', R, E, q, P⟩
  obtain ⟨⟨x, st1⟩, e1, q⟩ := bind_some q
  simp only at q
  split at q
  · rename_i k
    split at q
    · rename_i hs
      obtain ⟨⟨y, st2⟩, e2, q⟩ := bind_some q
      obtain ⟨d', e3, e4⟩ := map_some q
      cases e4
      refine tI_run R E e1 fun as1 H1 v x1 R1 E1 r1 => ?_
      cases r1 with
      | @ref k a ha =>
        refine ⟨a, rfl, isD_of R1 hs ha, tI_run R1 E1 e2 fun as2 H2 w x2 R2 E2 r2 => ?_⟩
        obtain ⟨o, h1, h2⟩ := getO_to R2 (x2.at ha) r2 .non e3
        exact ⟨o, h1, P as2 H2 _ (x1.trans x2) R2 h2⟩
    · cases q
  · cases q
theorem ie_get2 {fk fd : ME} {c : Expr} {apos : Pos} (hu : X.A.units + 64 < cLine) (ho : IE X cad a fo) (hk : IE X cad b fk) (hd : IE X cad c fd) (m : M2 X a "get" apos b c pos) : IE X cad (.Call (.Attribute a "get" apos) [b, c] [] pos) (eGet2 fo fk fd) := by
  refine pe_weak (pe_dget2 (by omega) ho hk hd m) fun σ H Q => ?_
  rintro ⟨as, st, ρ, d, st', R, E, q, P⟩
  obtain ⟨⟨x, st1⟩, e1, q⟩ := bind_some q
  simp only at q
  split at q
  · rename_i k
    split at q
    · rename_i hs
      obtain ⟨⟨y, st2⟩, e2, q⟩ := bind_some q
      obtain ⟨⟨z, st3⟩, e3, q⟩ := bind_some q
      obtain ⟨d', e4, e5⟩ := map_some q
      cases e5
      refine tI_run R E e1 fun as1 H1 v x1 R1 E1 r1 => ?_
      cases r1 with
      | @ref k a ha =>
        refine ⟨a, rfl, isD_of R1 hs ha, tI_run R1 E1 e2 fun as2 H2 w x2 R2 E2 r2 => tI_run R2 E2 e3 fun as3 H3 u x3 R3 E3 r3 => ?_⟩
        obtain ⟨o, h1, h2⟩ := getO_to R3 (x3.at (x2.at ha)) (r2.mono x3) r3 e4
        exact ⟨o, h1, P as3 H3 _ (x1.trans (x2.trans x3)) R3 h2⟩
    · cases q
  · cases q
def kIsB (neg : Bool) : O2 := fun x y st => match x, y with
  | .bl k, .bl l => some (.bl (if neg then !decide (k = l) else decide (k = l)), st)
  | _, _ => none
theorem od_isB {K : PySem.W.Frag} : OpD K cad rIsB (kIsB false) := by
  intro as st H x y v w d st' Q R r1 r2 e P
  cases r1 with
  | bl k =>
    cases r2 with
    | bl l =>
      cases e
      exact ⟨k, l, rfl, rfl, P.now R (.bl _)⟩
    | _ => cases e
  | _ => cases r2 <;> cases e
theorem cm_isB : Cmp X cad .Is (kIsB false) := ⟨⟨_, op_isBl, od_isB⟩⟩
structure GDic (K : PySem.W.Frag) (w : World) (mg : Str → Option Value) (x : Str) (kvs : List (List Nat × D)) : Prop where
  ex : ∃ a, mg x = some (.ref a) ∧ ∀ p ∈ kvs, ∃ v, KDct K w a (mkS p.1) v ∧ ∀ as H, VR K as H p.2 v
def eKdx (kvs : List (List Nat × D)) (f : ME) : ME := fun ρ st => (f ρ st).bind fun p => match p.1 with
  | .str l => (kvs.lookup l).map fun d => (d, p.2)
  | _ => none
theorem lookup_mem {l : List Nat} {d : D} : ∀ kvs : List (List Nat × D), kvs.lookup l = some d → (l, d) ∈ kvs
  | [], e => by cases e
  | (k, x) :: r, e => by
    by_cases hk : (l == k) = true
    · simp only [List.lookup, hk] at e
      cases e
      rw [beq_iff_eq.mp hk]
      exact .head _
    · have hk' : (l == k) = false := by
        cases hb : (l == k) with
        | true => exact absurd hb hk
        | false => rfl
      simp only [List.lookup, hk'] at e
      exact .tail _ (lookup_mem r e)
theorem ie_kdx {x : Str} {kvs : List (List Nat × D)} {p2 : Pos} (T : GDic X.K X.w X.mg x kvs) (hg : Gl X x) (hb : IE X cad b f) (hs : PlainIx b) (hdb : (x == ("__debug__" : Str)) = false := by decide) : IE X cad (.Subscript (.Name x p2) b pos) (eKdx kvs f) := by
  obtain ⟨a, hm, hv⟩ := T.ex
  refine pe_weak (pe_ix ix_kdict (pe_glob hg hm (v := .ref a) rfl hdb) hb hs) fun σ H Q => ?_
  rintro ⟨as, st, ρ, d, st', R, E, q, P⟩
  obtain ⟨⟨y, st1⟩, e1, q⟩ := bind_some q
  simp only at q
  split at q
  · rename_i l
    obtain ⟨d', e2, e3⟩ := map_some q
    cases e3
    refine tI_run R E e1 fun as1 H1 v x1 R1 E1 r1 => ?_
    cases r1 with
    | str hl =>
      have hmem : (l, d) ∈ kvs := lookup_mem kvs e2
      obtain ⟨v, h1, h2⟩ := hv _ hmem
      exact ⟨a, mkS l, v, rfl, rfl, h1, P as1 H1 v x1 R1 (h2 as1 H1)⟩
  · cases q
end
end MP

set_option maxRecDepth 100000
namespace MP
open PySem PySem.Spec PyProof.Rows L2
section
variable {K : PySem.W.Frag} {cad : Cad} {mg : Str → Option Value} {w : World}
theorem kit_t {C D : Addr} (hc : (PySem.W.clsIn K D).isSome = true) (ht : PySem.W.typeIn K (.ref D) = some (.type "type")) (hs : PySem.W.subIn K (.ref C) (.ref D) = some true) : PySem.W.kitOne K (.ref C) (.ref D) = some true := by
  unfold PySem.W.kitOne PySem.W.kitCls
  simp only [hc, ht, hs]
  split <;> rfl
theorem kit_f {C D : Addr} (hc : (PySem.W.clsIn K D).isSome = true) (ht : PySem.W.typeIn K (.ref D) = some (.type "type")) (hs : PySem.W.subIn K (.ref C) (.ref D) = some false) (hd : PySem.W.subIn K (.ref D) (.ref D) = some true) : PySem.W.kitOne K (.ref C) (.ref D) = some false := by
  have ne : (Value.ref C == Value.ref D) = false := by
    cases h : (Value.ref C == Value.ref D) with
    | false => rfl
    | true =>
      cases beq_iff_eq.mp h
      rw [hs] at hd
      cases hd
  unfold PySem.W.kitOne PySem.W.kitCls
  simp only [ne, hc, ht, hs]
  rfl
theorem kit_n {T : String} {D : Addr} (hc : (PySem.W.clsIn K D).isSome = true) (ht : PySem.W.typeIn K (.ref D) = some (.type "type")) (hs : PySem.W.subIn K (.type T) (.ref D) = some false) : PySem.W.kitOne K (.type T) (.ref D) = some false := by
  have ne : (Value.type T == Value.ref D) = false := by
    cases h : (Value.type T == Value.ref D) with
    | false => rfl
    | true => cases beq_iff_eq.mp h
  unfold PySem.W.kitOne PySem.W.kitCls
  simp only [ne, hc, ht, hs]
  rfl
theorem below0 {P : Nat → Prop} : ∀ c, c < 0 → P c := fun c h => absurd h (Nat.not_lt_zero _)
theorem belowS {P : Nat → Prop} {n : Nat} (h : ∀ c, c < n → P c) (k : P n) : ∀ c, c < n + 1 → P c := fun c hc => by
  by_cases e : c = n
  · exact e ▸ k
  · exact h c (by omega)
theorem memN {α : Type} {P : α → Prop} : ∀ c ∈ ([] : List α), P c := fun c h => by cases h
theorem memC {α : Type} {P : α → Prop} {a : α} {l : List α} (k : P a) (h : ∀ c ∈ l, P c) : ∀ c ∈ a :: l, P c := fun c hc => by
  rcases List.mem_cons.mp hc with e | e
  · exact e ▸ k
  · exact h c e
theorem vr_ktup {as : List Addr} {H : Hp} {a : Addr} {o : Obj} {its : Array Value} {n : Nat} {vs : List V} {ds : List D} (l : K.lookup a = some o) (hc : o.cls = .type "tuple") (hd : o.data = .seq its n) (hz : its.size ≤ sizeLine) (hv : Vals vs its.toList) (r : VRs K as H ds vs) : VR K as H (.tup ds) (.ref a) :=
  .tup (.inr ⟨o, its, n, l, hc, hd, hz, hv⟩) r
theorem isS_of {α : Type} {o : Option α} {x : α} (h : o = some x) : o.isSome = true := by rw [h]; rfl
theorem szK {its : Array Value} {k : Nat} (h : its.size = k) (h2 : k ≤ sizeLine) : its.size ≤ sizeLine := h ▸ h2
theorem rv_int (i : Int) (t : Tok) : RelV (.int i) (.int i t) := ⟨t, rfl⟩
theorem rv_str (l : List Nat) {x : Str} (h : mkS l = x) (t : Tok) : RelV (.str (mkS l)) (.str x t) := ⟨t, by rw [h]⟩
theorem rv_ref (a : Addr) : RelV (.ref a) (.ref a) := rfl
theorem rv_non : RelV .non .none := rfl
theorem rv_bl (b : Bool) : RelV (.bl b) (.bool b) := rfl
theorem bl_isB : IsBl (kIsB false) := by
  intro x y st d st' e
  cases x <;> cases y <;> first | (cases e; exact ⟨_, rfl⟩) | cases e
structure ClsW (K : PySem.W.Frag) (C : Addr) : Prop where
  cl : Cls K C
  cc : PySem.W.findIn K (.ref C) "__class__" = some (some (.builtin "object.__class__"))
  mr : PySem.W.mroIn K C (.type "object") = some true
structure MkAt (K : PySem.W.Frag) (mg : Str → Option Value) (C : Addr) (x qual : Str) (st : Stmt) (ps : List Str) : Prop where
  ex : ∃ (f : Addr) (fd : FuncData), Mk K C f ∧ mg x = some (.ref C) ∧ Fun K "__init__" qual st f fd ∧ Binds K fd ps []
theorem mkAt_mk {h : Heap} (X : K.In h) (G : h.Ns mainGlobals mg) {x qual : Str} {C : Addr} {st : Stmt} {ps : List Str} {f : Addr} {od an : Option Addr} {sl : Array (Option Value)} {oc kV dc pm cd ct : Value}
    (g : PySem.W.nsIn K mainGlobals x = some (some (.ref C))) (mk : PySem.W.makesIn K C = true) (kc : PySem.W.keepIn K (.ref C) = true)
    (a : PySem.W.findIn K (.ref C) "__init__" = some (some (.ref f))) (i : PySem.W.isFn K (.ref f) = true)
    (l : K.lookup f = some ⟨oc, od, .func (PySem.W.fnOf "__init__" qual (defArgs st) (defBody st) (defScope st) .none kV dc pm an cd ct), sl⟩) (c : PySem.W.codeIn K cd qual = true) (k : PySem.W.keepIn K (.ref f) = true)
    (hb : ∀ (kV doc pm : Value) (an : Option Addr) (cdv ct : Value) (us : List Value), us.length = ps.length → bindArgs (PySem.W.fnOf "__init__" qual (defArgs st) (defBody st) (defScope st) .none kV doc pm an cdv ct) ⟨us, []⟩ = pure (ps.zip us)) : MkAt K mg C x qual st ps :=
  ⟨f, _, ⟨mk, a, i, kc⟩, PySem.W.mg_of X G g, fun_mk l c k, (fun_mk l c k).binds hb⟩
theorem mk_fact {P : Program} {base : Heap} {x qual : Str} {st : Stmt} {N ps : List Str} {k c : Nat} {u : MS} (A : MkAt K mg (cad c) x qual st ps) (S : FnScope N ps (defScope st))
    (hbody : ∀ (fa : Addr) (cdv : Value) (A : Around) (outer : List Env) (s : Shared) (H : Hp) (E : XK), Room k (A.deeper (envOfC qual (defScope st) s.heap.objs.size fa cdv)) → ISs (cxOf CX0 P w K mg base N qual (defScope st) fa cdv A outer s H E).nox cad (defBody st) u) :
    MkFact P w K mg base cad x (k + 1) c (mkFn N.length ps.length u) := by
  obtain ⟨f, fd, M, hm, F, hb⟩ := A.ex
  exact ⟨f, fd, ps, M, fn_ok F S (fun cdv A outer s H E hr => hbody f cdv A outer s H E hr), hm, hb⟩
theorem fn_okD {P : Program} {base : Heap} {x qual : Str} {st : Stmt} {fa : Addr} {fd : FuncData} {N ps : List Str} {k : Nat} {u : MS} {dvs : List V} (F : FunD K x qual (defArgs st) (defBody st) (defScope st) dvs [] fa fd) (S : FnScope N ps (defScope st))
    (hbody : ∀ (cdv : Value) (A : Around) (outer : List Env) (s : Shared) (H : Hp) (E : XK), Room k (A.deeper (envOfC qual (defScope st) s.heap.objs.size fa cdv)) → ISs (cxOf CX0 P w K mg base N qual (defScope st) fa cdv A outer s H E).nox cad (defBody st) u) :
    FnOk P w K mg base CX0 (k + 1) fa fd ps (spOf K cad (mkFn N.length ps.length u)) := by
  refine F.ok S (fun vs H Q E h => ?_) (fun cdv A outer s H vs Q E hr h => ?_)
  · obtain ⟨as, st, ds, d, st', R, r, e, _⟩ := h
    unfold mkFn at e
    split at e
    · rename_i hl
      rw [← r.length]
      exact hl
    · cases e
  · refine ⟨_, (hbody cdv A outer s H E hr).nox, ?_⟩
    obtain ⟨as, st, ds, d, st', R, r, e, P⟩ := h
    unfold mkFn at e
    split at e
    · rename_i hl
      have hst : L2.start N vs = vs.map some ++ List.replicate (N.length - ps.length) none := by
        unfold L2.start
        rw [← r.length, hl]
      rw [hst]
      split at e
      · rename_i d' ρ' st'' e1
        cases e
        refine ⟨as, st, _, _, ρ', _, R, ER.start r (N.length - ps.length), e1, fun as' H' σ' x R' E' v rv => P as' H' v x R' rv⟩
      · rename_i ρ' st'' e1
        cases e
        exact ⟨as, st, _, _, ρ', _, R, ER.start r (N.length - ps.length), e1, fun as' H' σ' x R' E' => P as' H' .non x R' .non⟩
      · cases e
    · cases e
end
structure FnD (K : PySem.W.Frag) (mg : Str → Option Value) (x : Str) (st : Stmt) (ps : List Str) (dds : List D) : Prop where
  ex : ∃ (f : Addr) (fd : FuncData) (dvs dvs' : List V) (dus : List Value), mg x = some (.ref f) ∧ FunD K x x (defArgs st) (defBody st) (defScope st) dvs [] f fd ∧ Binds K fd ps dus ∧ Vals dvs' dus ∧ ∀ as H, VRs K as H dds dvs'
section
variable {P : Program} {w : World} {K : PySem.W.Frag} {mg : Str → Option Value} {base : Heap} {cad : Cad}
theorem fn_factD {x : Str} {st : Stmt} {N ps : List Str} {k : Nat} {u : MS} {dds : List D} (A : FnD K mg x st ps dds) (S : FnScope N ps (defScope st))
    (hbody : ∀ (fa : Addr) (cdv : Value) (A : Around) (outer : List Env) (s : Shared) (H : Hp) (E : XK), Room k (A.deeper (envOfC x (defScope st) s.heap.objs.size fa cdv)) → ISs (cxOf CX0 P w K mg base N x (defScope st) fa cdv A outer s H E).nox cad (defBody st) u) :
    FnFact P w K mg base cad x (k + 1) dds (mkFn N.length ps.length u) := by
  obtain ⟨f, fd, dvs, dvs', dus, hm, F, hb, hv, hr⟩ := A.ex
  exact ⟨f, fd, ps, dvs', dus, fn_okD F S (fun cdv A outer s H E hr => hbody f cdv A outer s H E hr), hm, F.kp, hb, hv, hr⟩
theorem fnD_mk {h : Heap} (X : K.In h) (G : h.Ns mainGlobals mg) {x : Str} {st : Stmt} {ps : List Str} {dds : List D} {f T : Addr} {od an oT : Option Addr} {sl sT : Array (Option Value)} {oc kV dc pm cd ct cT : Value} {its : List Value} {m : Nat} {dvs : List V}
    (a : PySem.W.nsIn K mainGlobals x = some (some (.ref f))) (l : K.lookup f = some ⟨oc, od, .func (PySem.W.fnOf x x (defArgs st) (defBody st) (defScope st) (.ref T) kV dc pm an cd ct), sl⟩) (c : PySem.W.codeIn K cd x = true) (k : PySem.W.keepIn K (.ref f) = true)
    (lT : K.lookup T = some ⟨cT, oT, .seq its.toArray m, sT⟩) (hv : Vals dvs its) (hd : dvs ≠ []) (n j : Nat) (hn : n + (dvs.length - j) = ps.length) (hr : ∀ as H, VRs K as H dds (dvs.drop j))
    (hb : ∀ (T : Addr) (kV doc pm : Value) (an : Option Addr) (cdv ct : Value) (us its : List Value), us.length = n → its.length = dvs.length →
      ∃ k, bindArgs (PySem.W.fnOf x x (defArgs st) (defBody st) (defScope st) (.ref T) kV doc pm an cdv ct) ⟨us, []⟩ = seqItems? (.ref T) >>= k ∧ k (some its.toArray) = pure (ps.zip (us ++ its.drop j))) : FnD K mg x st ps dds := by
  have F : FunD K x x (defArgs st) (defBody st) (defScope st) dvs [] f (PySem.W.fnOf x x (defArgs st) (defBody st) (defScope st) (.ref T) kV dc pm an cd ct) := ⟨⟨oc, od, .ref T, kV, dc, pm, an, cd, ct, sl, rfl, l, c, .inr ⟨hd, T, _, its, m, rfl, lT, rfl, hv⟩, .inl rfl⟩, k⟩
  obtain ⟨ds, h1, h2⟩ := F.binds1 n j hd hn hb
  exact ⟨f, _, dvs, dvs.drop j, ds, PySem.W.mg_of X G a, F, h2, h1, hr⟩
end
end MP

set_option maxRecDepth 100000
namespace MP
open PySem PySem.Spec L2
section
variable {st : Sto} {ρ : Rho} {d x y : D} {ds : List D} {f g fo fv fk fd : ME} {ga : MA} {cs : List Nat} {fn : Str} {k c n : Nat} {F : FN} {fs : List (Str × D)} {m : MG} {u : MS} {r : List D}
theorem fldM_at : fldM cs fn x st = kVal st (fldO cs fn x st) := rfl
theorem fldO_ins (h : st[k]? = some (.ins c fs)) (hc : c ∈ cs) {d : D} (hl : fs.lookup fn = some d) : fldO cs fn (.ref k) st = some d := by
  simp only [fldO, h, if_pos hc, hl]
theorem setFO_ins (h : st[k]? = some (.ins c fs)) (hc : c ∈ cs) (hl : fs.length < 1000) : setFO cs fn (.ref k) d st = some (st.set k (.ins c (putFD fn d fs))) := by
  simp only [setFO, h, if_pos (And.intro hc hl)]
def kSF3 (ρ : Rho) (r : Option Sto) : RS := r.map fun st' => (.nx, ρ, st')
def kSF2 (cs : List Nat) (fn : Str) (ρ : Rho) (y : D) (r : Option (D × Sto)) : RS := r.bind fun x => kSF3 ρ (setFO cs fn x.1 y x.2)
def kSF1 (cs : List Nat) (fn : Str) (fo : ME) (ρ : Rho) (r : Option (D × Sto)) : RS := r.bind fun y => kSF2 cs fn ρ y.1 (fo ρ y.2)
theorem sFldM_at : sFldM cs fn fo fv ρ st = kSF1 cs fn fo ρ (fv ρ st) := rfl
theorem kSF1_some : kSF1 cs fn fo ρ (some (y, st)) = kSF2 cs fn ρ y (fo ρ st) := rfl
theorem kSF2_some : kSF2 cs fn ρ y (some (x, st)) = kSF3 ρ (setFO cs fn x y st) := rfl
theorem kSF3_some : kSF3 ρ (some st) = some (.nx, ρ, st) := rfl
def kSA2 (cs : List Nat) (fn : Str) (ρ : Rho) (x : D) (st : Sto) (j : Int) (r : Option D) : RS := match r with
  | some (.int i) => kSF3 ρ (setFO cs fn x (.int (i + j)) st)
  | _ => none
def kSA1 (cs : List Nat) (fn : Str) (ρ : Rho) (j : Int) (r : Option (D × Sto)) : RS := r.bind fun x => kSA2 cs fn ρ x.1 x.2 j (fldO cs fn x.1 x.2)
theorem sFldAddM_at {j : Int} : sFldAddM cs fn fo j ρ st = kSA1 cs fn ρ j (fo ρ st) := by
  unfold sFldAddM kSA1
  congr 1
theorem kSA1_some {j : Int} : kSA1 cs fn ρ j (some (x, st)) = kSA2 cs fn ρ x st j (fldO cs fn x st) := rfl
theorem kSA2_int {i j : Int} : kSA2 cs fn ρ x st j (some (.int i)) = kSF3 ρ (setFO cs fn x (.int (i + j)) st) := rfl
def kMk2 (n : Nat) (r : Option (D × Sto)) : Option (D × Sto) := r.bind fun q => match q.1 with
  | .non => some (.ref n, q.2)
  | _ => none
def kMk1 (c : Nat) (F : FN) (r : Option (List D × Sto)) : Option (D × Sto) := r.bind fun p => kMk2 p.2.length (F (.ref p.2.length :: p.1) (p.2 ++ [.ins c []]))
theorem eMake_at : eMake c F ga ρ st = kMk1 c F (ga ρ st) := rfl
theorem kMk1_some : kMk1 c F (some (ds, st)) = kMk2 st.length (F (.ref st.length :: ds) (st ++ [.ins c []])) := rfl
theorem kMk2_some : kMk2 n (some (.non, st)) = some (.ref n, st) := rfl
theorem isCM_at {subs : List Nat} : isCM subs n x st = kBl st (isCO subs n x st) := rfl
theorem isCO_non {subs : List Nat} : isCO subs n .non st = some false := rfl
theorem isCO_ins {subs : List Nat} (h : st[k]? = some (.ins c fs)) (hc : c < n) : isCO subs n (.ref k) st = some (decide (c ∈ subs)) := by
  simp only [isCO, h, if_pos hc]
def kG13 (r : Option D) (st : Sto) : Option (D × Sto) := r.map fun d => (d, st)
def kG12 (k : Nat) (r : Option (D × Sto)) : Option (D × Sto) := r.bind fun y => kG13 (getO k y.1 .non y.2) y.2
def kG11 (fk : ME) (ρ : Rho) (r : Option (D × Sto)) : Option (D × Sto) := r.bind fun x => match x.1 with
  | .ref k => if (myD x.2 k).isSome = true then kG12 k (fk ρ x.2) else none
  | _ => none
theorem eGet1_at : eGet1 fo fk ρ st = kG11 fk ρ (fo ρ st) := rfl
theorem kG11_some (h : (myD st k).isSome = true) : kG11 fk ρ (some (.ref k, st)) = kG12 k (fk ρ st) := if_pos h
theorem kG12_some : kG12 k (some (y, st)) = kG13 (getO k y .non st) st := rfl
theorem kG13_some : kG13 (some d) st = some (d, st) := rfl
def kG23 (k : Nat) (y : D) (r : Option (D × Sto)) : Option (D × Sto) := r.bind fun z => kG13 (getO k y z.1 z.2) z.2
def kG22 (fd : ME) (ρ : Rho) (k : Nat) (r : Option (D × Sto)) : Option (D × Sto) := r.bind fun y => kG23 k y.1 (fd ρ y.2)
def kG21 (fk fd : ME) (ρ : Rho) (r : Option (D × Sto)) : Option (D × Sto) := r.bind fun x => match x.1 with
  | .ref k => if (myD x.2 k).isSome = true then kG22 fd ρ k (fk ρ x.2) else none
  | _ => none
theorem eGet2_at : eGet2 fo fk fd ρ st = kG21 fk fd ρ (fo ρ st) := rfl
theorem kG21_some (h : (myD st k).isSome = true) : kG21 fk fd ρ (some (.ref k, st)) = kG22 fd ρ k (fk ρ st) := if_pos h
theorem kG22_some : kG22 fd ρ k (some (y, st)) = kG23 k y (fd ρ st) := rfl
theorem kG23_some : kG23 k y (some (d, st)) = kG13 (getO k y d st) st := rfl
def kCallD (F : FN) (dds : List D) (r : Option (List D × Sto)) : Option (D × Sto) := r.bind fun p => F (p.1 ++ dds) p.2
theorem eCallD_at {dds : List D} : eCallD F dds ga ρ st = kCallD F dds (ga ρ st) := rfl
theorem kCallD_some {dds : List D} : kCallD F dds (some (ds, st)) = F (ds ++ dds) st := rfl
def kKdx (kvs : List (List Nat × D)) (r : Option (D × Sto)) : Option (D × Sto) := r.bind fun p => match p.1 with
  | .str l => kVal p.2 (kvs.lookup l)
  | _ => none
theorem eKdx_at {kvs : List (List Nat × D)} : eKdx kvs f ρ st = kKdx kvs (f ρ st) := rfl
theorem kKdx_some {kvs : List (List Nat × D)} {l : List Nat} : kKdx kvs (some (.str l, st)) = kVal st (kvs.lookup l) := rfl
theorem kIsB_at {a b : Bool} : kIsB false (.bl a) (.bl b) st = some (.bl (decide (a = b)), st) := rfl
theorem isL_my (h : myL st k = some ds) : isL st (.ref k) = true := by
  show (rdL st k).isSome = true
  rw [myL_rdL h]
  rfl
def loopT (m : MG) (body : MS) : List D → MS
  | [] => fun ρ st => some (.nx, ρ, st)
  | d :: r => fun ρ st => (m d ρ).bind fun ρ1 => (body ρ1 st).bind fun q => match q.1 with
      | .nx => loopT m body r q.2.1 q.2.2
      | .ct => loopT m body r q.2.1 q.2.2
      | .bk => some (.nx, q.2.1, q.2.2)
      | .rt d => some (.rt d, q.2.1, q.2.2)
theorem loopF_T : ∀ (ds : List D) (ρ : Rho) (st : Sto), loopF (fun _ => True) m u ds ρ st = loopT m u ds ρ st
  | [], ρ, st => loopF_nil
  | d :: r, ρ, st => by
    rw [loopF_cons]
    show kF1 m u r st (m d ρ) = (m d ρ).bind _
    unfold kF1
    cases m d ρ with
    | none => rfl
    | some ρ1 =>
      show kF2 m u r (u ρ1 st) = (u ρ1 st).bind _
      unfold kF2
      cases u ρ1 st with
      | none => rfl
      | some q =>
        obtain ⟨fl, ρ2, st2⟩ := q
        cases fl with
        | nx => exact loopF_T r ρ2 st2
        | ct => exact loopF_T r ρ2 st2
        | bk => rfl
        | rt d => rfl
def sForT (ds : List D) (m : MG) (body : MS) : MS := loopT m body ds
theorem sFor_tupT : sFor (iV (eC (.tup ds))) m u = sForT ds m u := by
  funext ρ st
  exact (sFor_run (ds := ds) (st' := st) rfl).trans (loopF_T ds ρ st)
end
theorem toP_self (st : Sto) : ∀ (n : Nat) (d : D), PD n d → ∃ p, toP st n d = some p ∧ PyData.eqv p p = true
  | 0, _, h => h.elim
  | n + 1, .non, _ => ⟨_, rfl, by simp [PyData.eqv]⟩
  | n + 1, .bl b, _ => ⟨_, rfl, by simp [PyData.eqv]⟩
  | n + 1, .int b, _ => ⟨_, rfl, by simp [PyData.eqv]⟩
  | n + 1, .str b, _ => ⟨_, rfl, by simp [PyData.eqv]⟩
  | n + 1, .ref _, h => h.elim
  | n + 1, .tup ds, h => by
    have hd := h.2
    have all : ∀ ds : List D, (∀ d ∈ ds, PD n d) → ∃ ps, mapO (toP st n) ds = some ps ∧ PyData.eqvAll ps ps = true := fun ds => by
      induction ds with
      | nil => exact fun _ => ⟨[], rfl, by simp [PyData.eqvAll]⟩
      | cons d r ih =>
        intro hx
        obtain ⟨p, e1, e2⟩ := toP_self st n d (hx d (.head _))
        obtain ⟨ps, e3, e4⟩ := ih fun x hm => hx x (.tail _ hm)
        exact ⟨p :: ps, by simp [mapO, e1, e3], by simp [PyData.eqvAll, e2, e4]⟩
    obtain ⟨ps, e1, e2⟩ := all ds hd
    exact ⟨.tuple ps, by simp [toP, e1], by simpa [PyData.eqv] using e2⟩
theorem eqO_self {st : Sto} {d : D} (h : PD 50 d) : eqO st d d = some true := by
  obtain ⟨p, e1, e2⟩ := toP_self st 50 d h
  have e1' : toP st DEEP d = some p := e1
  simp only [eqO, e1', e2]
theorem PD_tup {n : Nat} {ds : List D} (hl : ds.length ≤ 1000) (h : ∀ d ∈ ds, PD n d) : PD (n + 1) (.tup ds) := ⟨by unfold LIM; omega, h⟩
end MP

set_option maxRecDepth 100000
namespace MP
open PySem PySem.Spec L2
section
variable {m : MG} {u : MS} {st : Sto} {chk : Sto → Prop}
theorem sFor_runC {fi : MI} {ρ : Rho} {ds : List D} {st' : Sto} (h : fi ρ st = some ((ds, chk), st')) : sFor fi m u ρ st = loopF chk m u ds ρ st' := by
  unfold sFor
  rw [h]
  rfl
theorem loopF_still (hc : chk st) (P : Rho → Prop) : ∀ (ds : List D) (ρ : Rho), (∀ d ∈ ds, ∀ ρ, P ρ → ∃ ρ1 ρ2, m d ρ = some ρ1 ∧ u ρ1 st = some (.nx, ρ2, st) ∧ P ρ2) → P ρ → ∃ ρ', loopF chk m u ds ρ st = some (.nx, ρ', st) ∧ P ρ'
  | [], ρ, _, hp => ⟨ρ, by
    unfold loopF
    rw [if_pos hc], hp⟩
  | d :: r, ρ, h, hp => by
    obtain ⟨ρ1, ρ2, e1, e2, p2⟩ := h d (.head _) ρ hp
    obtain ⟨ρ', e3, p3⟩ := loopF_still hc P r ρ2 (fun x hx => h x (.tail _ hx)) p2
    refine ⟨ρ', ?_, p3⟩
    unfold loopF
    rw [if_pos hc, e1, Option.bind_some, e2, Option.bind_some]
    exact e3
theorem iV_lst {f : ME} {ρ : Rho} {k : Nat} {ds : List D} {st' : Sto} (h : f ρ st = some (.ref k, st')) (hl : rdL st' k = some ds) : iV f ρ st = some ((ds, fun s => rdL s k = some ds), st') := by
  unfold iV
  rw [h, Option.bind_some]
  simp only [hl]
  rfl
theorem loopC_calmC {f : ME} {ρ0 : Rho} {v : D → D} (hk : ∀ acc, chk (st ++ [.lst acc])) : ∀ (ds : List D) (acc : List D),
    (∀ d ∈ ds, ∀ acc, ∃ ρ1, m d ρ0 = some ρ1 ∧ f ρ1 (st ++ [.lst acc]) = some (v d, st ++ [.lst acc])) →
    acc.length + ds.length ≤ LIM → loopC chk m tYesM f ρ0 st.length ds (st ++ [.lst acc]) = some (st ++ [.lst (acc ++ ds.map v)])
  | [], acc, _, _ => by
    unfold loopC
    rw [if_pos (hk acc)]
    simp
  | d :: r, acc, h, hl => by
    rw [List.length_cons] at hl
    obtain ⟨ρ1, e1, e2⟩ := h d (.head _) acc
    have e3 := loopC_calmC hk r (acc ++ [v d]) (fun x hx => h x (.tail _ hx)) (by rw [List.length_append, List.length_singleton]; omega)
    unfold loopC
    rw [if_pos (hk acc), e1, Option.bind_some]
    show (Option.bind (some (true, st ++ [.lst acc])) _) = _
    rw [Option.bind_some]
    simp only [if_true]
    rw [e2, Option.bind_some]
    simp only [myL_end]
    rw [if_pos (by omega), set_end, e3]
    simp [List.append_assoc]
theorem eLc_calmC {fi : MI} {f : ME} {ρ : Rho} {vs : List Nat} {v : D → D} {ds : List D} (hi : fi ρ st = some ((ds, chk), st)) (hk : ∀ acc, chk (st ++ [.lst acc])) (hl : ds.length ≤ LIM)
    (h : ∀ d ∈ ds, ∀ acc, ∃ ρ1, m d (wipeD ρ vs) = some ρ1 ∧ f ρ1 (st ++ [.lst acc]) = some (v d, st ++ [.lst acc])) :
    eLc vs fi m tYesM f ρ st = some (.ref st.length, st ++ [.lst (ds.map v)]) := by
  have e := loopC_calmC hk ds [] h (by simpa using hl)
  unfold eLc
  rw [hi, Option.bind_some]
  show Option.map _ (loopC chk m tYesM f (wipeD ρ vs) st.length ds (st ++ [.lst []])) = _
  rw [e]
  rfl
theorem rngD_succ (lo : Int) (n : Nat) : rngD lo (n + 1) = .int lo :: rngD (lo + 1) n := by
  unfold rngD
  rw [List.range_succ_eq_map, List.map_cons, List.map_map]
  congr 1
  · simp
  · refine List.map_congr_left fun i _ => ?_
    show D.int (lo + ((i + 1 : Nat) : Int)) = D.int (lo + 1 + (i : Int))
    congr 1
    omega
end
end MP

set_option maxRecDepth 100000
namespace MP
open PySem PySem.Spec PyProof.Rows L2
section
variable {X : Cx} {cad : Cad} {e a b c : Expr} {f h : ME} {g : MA} {pos p apos : Pos} {es : List Expr}
def minF (big : Bool) : FN := fun ds st => match ds with
  | [.int i, .int j] => some (.int (if big then (if j > i then j else i) else (if j < i then j else i)), st)
  | _ => none
theorem cd_min {K : PySem.W.Frag} : CallD K cad (fun xs H Q => ∃ i j, xs = [V.int i, V.int j] ∧ Q (.int (if j < i then j else i)) H) (minF false) := by
  intro as st H ds vs d st' Q R r1 e P
  match ds, r1, e with
  | [.int i, .int j], .cons (.int _) (.cons (.int _) .nil), e =>
    cases e
    exact ⟨i, j, rfl, P.now R (.int _)⟩
theorem cd_max {K : PySem.W.Frag} : CallD K cad (fun xs H Q => ∃ i j, xs = [V.int i, V.int j] ∧ Q (.int (if j > i then j else i)) H) (minF true) := by
  intro as st H ds vs d st' Q R r1 e P
  match ds, r1, e with
  | [.int i, .int j], .cons (.int _) (.cons (.int _) .nil), e =>
    cases e
    exact ⟨i, j, rfl, P.now R (.int _)⟩
theorem ie_min (hc : X.calm = true) (hg : Gl X "min") (hm : X.mg "min" = none) (ha : IA X cad (e :: es) g) (he : starEach (e :: es) X.env = (false, eval e X.env) :: starEach es X.env := by rfl) (hpl : (backTo pos (starEach es X.env)).any (·.1) = false := by rfl) :
    IE X cad (.Call (.Name "min" p) (e :: es) [] pos) (eCall (minF false) g) := ie_callB cd_min (call_min2 hc) hg hm (by decide +kernel) ha (by decide) (by decide) he hpl
theorem ie_max (hc : X.calm = true) (hg : Gl X "max") (hm : X.mg "max" = none) (ha : IA X cad (e :: es) g) (he : starEach (e :: es) X.env = (false, eval e X.env) :: starEach es X.env := by rfl) (hpl : (backTo pos (starEach es X.env)).any (·.1) = false := by rfl) :
    IE X cad (.Call (.Name "max" p) (e :: es) [] pos) (eCall (minF true) g) := ie_callB cd_max (call_max2 hc) hg hm (by decide +kernel) ha (by decide) (by decide) he hpl
end
end MP

set_option maxRecDepth 100000
namespace MP
open PySem PySem.Spec PyProof.Rows L2
section
variable {P : Program} {w : World} {A : Around} {E : Value → Shared → Prop} {s : Shared}
theorem hbv_key (n : Nat) {k : Key} {v : Value} (h : (mixKind P w).is k v = true) : ∃ c, hashByValue n v = pure c := by
  rcases keyIs_shape h with ⟨i, t, rfl, rfl⟩ | ⟨x, t, rfl, rfl⟩ <;> cases n <;> simp [hashByValue, plainKind]
theorem hbv_all (n : Nat) {ks : List Key} {us : List Value} (h : ItemsAre (mixKind P w) ks us) : ∀ u ∈ us, ∃ c, hashByValue n u = pure c := by
  induction h with
  | nil => exact fun u m => absurd m (by simp)
  | @cons k v ks us h1 _ ih =>
    intro u m
    rcases List.mem_cons.mp m with rfl | m
    · exact hbv_key n h1
    · exact ih u m
theorem hbv_tup {ks : List Key} {x : Addr} {Q : Bool → Shared → Prop} (kx : IsTupleKey (mixKind P w) s.heap ks x) (q : ∀ c, Q c s) : wpAny (model P w) A (hashByValue 8 (.ref x)) Q E s := by
  have ty := kx.typeIs
  obtain ⟨u, its, m, g, _, dt, ia⟩ := kx
  unfold hashByValue
  refine wpAny_bind (wpAny_specialOf ty F.slot_tuple_hash.lookup ?_)
  show wpAny _ _ (seqItems? (.ref x) >>= _) _ _ s
  refine wpAny_bind (wpAny_seqItems g dt (wpAny_bind ?_))
  show wpAny _ _ (forIn its _ _) _ _ s
  rw [← Array.forIn_toList]
  refine wpAny_forIn_list _ (fun l r z => r.1 = none ∧ z = s ∧ ∀ v ∈ l, ∃ c, hashByValue 7 v = pure c) _ ?_ ?_ _ _ ⟨rfl, rfl, hbv_all 7 ia⟩
  · rintro v l ⟨r1, r2⟩ z ⟨h1, rfl, h2⟩
    simp only at h1
    subst h1
    obtain ⟨c, e⟩ := h2 v List.mem_cons_self
    rw [e]
    refine wpAny_bind (wpAny_pure ?_)
    cases c with
    | true =>
      simp only [Bool.not_true, Bool.false_eq_true, if_false]
      exact wpAny_pure ⟨rfl, rfl, fun u m => h2 u (List.mem_cons_of_mem _ m)⟩
    | false =>
      simp only [Bool.not_false, if_true]
      exact wpAny_pure (wpAny_pure (q false))
  · rintro ⟨r1, r2⟩ z ⟨h1, rfl, _⟩
    simp only at h1
    subst h1
    exact wpAny_pure (q true)
abbrev set0 (b : Bool) : Obj := { cls := .type "set", dict := none, data := .set #[] 0 (.fresh 0 0 b) }
theorem probe0 (b : Bool) (g : Nat → Int) (h : Int) : (SetTable.fresh 0 0 b).probe g h ((SetTable.fresh 0 0 b).probeStart h) = some (.empty (SetTable.bits h % 8) none) := by
  unfold SetTable.probe
  rw [show 10 * SetTable.turns (SetTable.fresh 0 0 b).mask = 219 + 1 from rfl]
  rfl
theorem search0 {a x : Addr} {b : Bool} {h : Int} {Q : SetFound → Shared → Prop} (g : s.heap.get? a = some (set0 b)) (q : Q (.free (SetTable.bits h % 8) false) s) : wpAny (model P w) A (setSearch a (.ref x) h true) Q E s := by
  unfold setSearch
  rw [show (100000 : Nat) = 99999 + 1 from rfl, setSearchFrom_succ]
  refine wpAny_bind (wpAny_setState_of g rfl rfl ?_)
  dsimp only
  refine wp_if_neg (by cases b <;> decide) ?_
  try refine wpAny_bind (wpAny_pure ?_)
  exact wpAny_pure q
theorem put0 (b : Bool) (j : Nat) : (SetTable.fresh 0 0 b).put j = ({ mask := 7, place := #[j], dummies := #[], finger := 0, led := b, moves := 0, plain := true }, 0) := by
  unfold SetTable.put SetTable.fresh
  rfl
theorem add0 {a x : Addr} {b : Bool} {h : Int} {ks : List Key} {Q : Bool → Shared → Prop} (g : s.heap.get? a = some (set0 b)) (kx : IsTupleKey (mixKind P w) s.heap ks x)
    (q : ∀ h2 o es ep t, Heap.SameBut a s.heap h2 → h2.get? a = some o → o.ExactSet → o.data = .set es ep t → t.fits es.size = true → es.size = 1 → Q true { s with heap := h2 }) : wpAny (model P w) A (setAddHashed a (.ref x) h) Q E s := by
  unfold setAddHashed
  refine wpAny_holding ?_
  rw [show (100000 : Nat) = 99999 + 1 from rfl, setAddHashedIn_succ]
  refine wpAny_bind (wpAny_setState_of g rfl rfl ?_)
  dsimp only
  refine wp_if_neg (by simp [byScan, Value.scannable]) ?_
  try refine wpAny_bind (wpAny_pure ?_)
  refine wpAny_bind (search0 g ?_)
  dsimp only
  refine wpAny_bind (wpAny_setState_of g rfl rfl ?_)
  dsimp only
  rw [put0]
  dsimp only
  first
    | (refine wpAny_bind ?_; refine wp_if_pos rfl ?_; refine hbv_tup kx fun c => ?_)
    | refine wp_if_pos rfl (wpAny_bind (hbv_tup kx fun c => ?_))
  refine wpAny_bind (wpAny_storeSet_of g rfl ?_ (by show 1 ≤ sizeLine; rw [sizeLine_eq]; omega))
  first
    | refine wp_if_neg (by cases c <;> exact Bool.false_ne_true) ?_
    | (refine wpAny_bind ?_; refine wp_if_neg (by cases c <;> exact Bool.false_ne_true) ?_; refine wpAny_pure ?_)
  exact wpAny_pure (q _ _ _ _ _ (Heap.SameBut.update ..) (store_at g rfl) ⟨rfl, rfl, rfl⟩ rfl (by cases c <;> rfl) rfl)
theorem upd1 {a it l x : Addr} {b : Bool} {ks : List Key} {R : Result → Shared → Prop} (nh : A.in1.handled = none) (nu : A.in1.units < cLine)
    (g : s.heap.get? a = some (set0 b)) (hi : s.heap.IsTupleIter it l 0) (ht : s.heap.IsTuple l #[.ref x]) (kx : IsTupleKey (mixKind P w) s.heap ks x) (n1 : l ≠ it) (n2 : a ≠ it) (n3 : a ≠ l) (n4 : x ≠ it)
    (q : ∀ h2 tk o es ep t, h2.get? a = some o → o.ExactSet → o.data = .set es ep t → t.fits es.size = true → es.size = 1 → (∀ c u, c ≠ a → c ≠ it → s.heap.get? c = some u → h2.get? c = some u) → R (.ok (.ret .none)) { s with heap := h2, toks := tk }) :
    codeAny (model P w) A (.builtin "set.update.loop" ⟨[.ref a, .ref it], []⟩) R s := by
  refine codeAny_builtin F.entry_set_update_loop ?_
  rw [Around.under_plainId F.plain_set_update_loop _]
  show wpAny _ A.in1 (pyNext (.ref it) >>= _) _ _ s
  refine wpAny_bind (wpAny_pyNext_tuple_item hi ht (x := .ref x) rfl fun h1 i1 s1 => ?_)
  have g1 : h1.get? a = some (set0 b) := (s1.2 a n2).trans g
  have t1 : h1.IsTuple l #[.ref x] := ht.extBut s1.extBut n1
  have k1 : IsTupleKey (mixKind P w) h1 ks x := by
    obtain ⟨o, its, m, e, z⟩ := kx
    exact ⟨o, its, m, (s1.2 x n4).trans e, z⟩
  show wpAny _ A.in1 (holding [Value.ref x] (setAdd a (.ref x)) >>= _) _ _ _
  refine wpAny_bind (wpAny_holding ?_)
  unfold setAdd
  refine wpAny_holding (wpAny_bind (wpAny_pyHash_tuple (knd := mixKind P w) (ks := ks) nu k1 ?_))
  refine add0 (s := { s with heap := h1, toks := s.toks + (ks.length + 1) }) g1 k1 fun h2 o es ep t s2 e1 e2 e3 e4 e5 => ?_
  have i2 : h2.IsTupleIter it l 1 := i1.at fun u e => (s2.2 it (Ne.symm n2)).trans e
  have t2 : h2.IsTuple l #[.ref x] := t1.at fun u e => (s2.2 l (Ne.symm n3)).trans e
  refine wpAny_pure ⟨plainId_quiet F.plain_set_update_loop _, codeAny_builtin F.entry_set_update_loop ?_⟩
  rw [Around.under_plainId F.plain_set_update_loop _]
  show wpAny _ A.in1 (pyNext (.ref it) >>= _) _ _ _
  refine wpAny_bind (wpAny_pyNext_tuple_end nh i2 t2 (by simp) fun h3 e6 => ?_)
  show wpAny _ _ (ret Value.none) _ _ _
  exact wpAny_pure (q h3 _ o es ep t (e6 a o n2 e1) e2 e3 e4 e5 fun c u c1 c2 e => e6 c u c2 ((s2.2 c c1).trans ((s1.2 c c2).trans e)))
set_option maxHeartbeats 3200000 in
theorem call_set1 {l x : Addr} {ks : List Key} {Q : Value → Shared → Prop} (nh : A.handled = none) (nu : A.units + 3 < cLine) (ht : s.heap.IsTuple l #[.ref x]) (kx : IsTupleKey (mixKind P w) s.heap ks x)
    (q : ∀ h2 tk o es ep t, h2.get? s.heap.objs.size = some o → o.ExactSet → o.data = .set es ep t → t.fits es.size = true → es.size = 1 → (∀ c u, s.heap.get? c = some u → h2.get? c = some u) → Q (.ref s.heap.objs.size) { s with heap := h2, toks := tk }) :
    wpAny (model P w) A (call (.type "set") [.ref l]) Q E s := by
  obtain ⟨cm, tm, em⟩ := F.called_set.mro
  have em1 := F.called_set.made
  have em2 := F.called_set.sub
  refine wpAny_call (codeAny_of_tree ?_)
  show wpAny _ _ (callAny (.type "set") _) _ _ _
  refine wpAny_pure ⟨Code.quiet_builtin _ (by decide +kernel), codeAny_builtin F.entry_type_call ?_⟩
  rw [Around.under_plain (weight_type_call_type "set" [.ref l] []) rfl]
  have em3 := F.called_set.notType
  have em4 := F.called_set.canCreate
  have em5 := F.typeCall_set_1 (.ref l)
  repeat (any_goals (first | assumption | wp_step))
  refine codeAny_mono (code_set_led1 (.ref l) (E := E) (Q₁ := fun v z => v = .ref s.heap.objs.size ∧ z = { s with heap := s.heap.push (set0 (!w.params.followText "set-order")) }) ⟨rfl, rfl⟩) fun r z hr => ?_
  cases r with
  | error e => exact hr
  | ok fl =>
    cases fl with
    | ret v =>
      obtain ⟨rfl, rfl⟩ := hr
      have gS : (s.heap.push (set0 (!w.params.followText "set-order"))).get? s.heap.objs.size = some (set0 (!w.params.followText "set-order")) := Heap.get?_push_size _ rfl
      have tS : Shared.TypeIs { s with heap := s.heap.push (set0 (!w.params.followText "set-order")) } (.ref s.heap.objs.size) "set" := ⟨_, gS, rfl⟩
      have em6 := F.called_set.init.lookup
      have em7 := F.called_set.init.bind (.ref s.heap.objs.size)
      repeat (any_goals (first | assumption | wp_step))
      refine codeAny_mono (codeAny_call_builtin (R := wants (fun v z => v = .none ∧ ∃ h2 tk o es ep t, z = { s with heap := h2, toks := tk } ∧ h2.get? s.heap.objs.size = some o ∧ o.ExactSet ∧ o.data = .set es ep t ∧ t.fits es.size = true ∧ es.size = 1 ∧
          (∀ c u, s.heap.get? c = some u → h2.get? c = some u)) E) F.called_set.init.plain F.entry_set_init (check_set_init_1 tS ?_)) fun r z hr => ?_
      · obtain ⟨⟨c0, d0, e0, f0⟩, gl, cl, nl, dl⟩ := id ht
        simp only at cl dl
        subst cl
        subst dl
        have lt := Heap.lt_size gl
        have xt : x < s.heap.objs.size := by
          obtain ⟨o, its, m, e, _⟩ := kx
          exact Heap.lt_size e
        have gl2 : (s.heap.push (set0 (!w.params.followText "set-order"))).get? l = some { cls := .type "tuple", dict := d0, data := .seq #[.ref x] nl, slots := f0 } := Heap.get?_push_of_some _ gl
        have em8 := PySem.F.sub_tuple_set
        have em9 := PySem.F.sub_tuple_frozenset
        have em10 : (Value.type "tuple" == Value.type "dict") = false := by decide
        have tl : (s.heap.push (set0 (!w.params.followText "set-order"))).IsTuple l #[.ref x] := ⟨_, gl2, rfl, nl, rfl⟩
        unfold Builtin.«set.__init__» noKeywords Builtin.Frozenset.updateFrom
        generalize hPI : pyIter = PI
        wp_walk
        subst hPI
        refine wpAny_pyIter_tuple tl (wpAny_bind (wpAny_runValue ?_))
        have sz : (s.heap.push (set0 (!w.params.followText "set-order"))).objs.size = s.heap.objs.size + 1 := Heap.size_push ..
        have g2 := Heap.get?_push_of_some { cls := .type "tuple_iterator", data := .fields #[.ref l, .int 0 0] } gS
        refine upd1 (b := !w.params.followText "set-order") (l := l) (x := x) (ks := ks) (by simp [nh]) nu g2 ⟨_, Heap.get?_push_size _ rfl, rfl, rfl⟩ (tl.push _) ?_ (by rw [sz]; exact Nat.ne_of_lt (Nat.lt_succ_of_lt lt)) (by rw [sz]; exact Nat.ne_of_lt (Nat.lt_succ_self _)) (Nat.ne_of_gt lt) (by rw [sz]; exact Nat.ne_of_lt (Nat.lt_succ_of_lt xt)) fun h2 tk o es ep t e1 e2 e3 e4 e5 e6 => ?_
        · obtain ⟨o, its, m, e, z⟩ := kx
          exact ⟨o, its, m, Heap.get?_push_of_some _ (Heap.get?_push_of_some _ e), z⟩
        · show wpAny _ _ _ _ _ _
          refine wpAny_pure ?_
          show wpAny _ _ (ret Value.none) _ _ _
          refine wpAny_pure ⟨rfl, h2, tk, o, es, ep, t, rfl, e1, e2, e3, e4, e5, fun c u e => e6 c u ?_ ?_ (Heap.get?_push_of_some _ (Heap.get?_push_of_some _ e))⟩
          · exact Nat.ne_of_lt (Heap.lt_size e)
          · rw [sz]
            exact Nat.ne_of_lt (Nat.lt_succ_of_lt (Heap.lt_size e))
      · cases r with
        | error e => exact hr
        | ok fl =>
          cases fl with
          | ret v =>
            obtain ⟨rfl, h2, tk, o, es, ep, t, rfl, e1, e2, e3, e4, e5, e6⟩ := hr
            repeat (any_goals (first | assumption | wp_step))
            exact q h2 tk o es ep t e1 e2 e3 e4 e5 e6
          | _ => exact hr.elim
    | _ => exact hr.elim
end
def keysT : List D → Option (List Key)
  | [] => some []
  | d :: r => (keyOf d).bind fun k => (keysT r).map fun ks => k :: ks
def lenSetO : D → Sto → Option (D × Sto) := fun x st => match x with
  | .tup [.tup ks] => if (keysT ks).isSome = true then some (.int 1, st) else none
  | _ => none
section
variable {X : Cx} {cad : Cad} {a : Expr} {f : ME} {p p2 q pos : Pos}
theorem keysT_to {K : PySem.W.Frag} {as : List Addr} {H : Hp} : ∀ {ds : List D} {vs : List V} {ks : List Key}, VRs K as H ds vs → keysT ds = some ks → vs = ks.map kV
  | _, _, _, .nil, e => by
    cases e
    rfl
  | d :: ds, v :: vs, _, .cons r t, e => by
    obtain ⟨k, e1, e2⟩ := bind_some e
    obtain ⟨ks, e3, rfl⟩ := map_some e2
    rw [keyOf_is r e1, keysT_to t e3]
    rfl
theorem items_of_keys {P : Program} {w : World} : ∀ {ks : List Key} {us : List Value}, Vals (ks.map kV) us → ItemsAre (mixKind P w) ks us
  | [], _, .nil => .nil
  | k :: ks, u :: us, .cons r t => .cons (by
    cases k with
    | inl i =>
      obtain ⟨t, rfl⟩ := r
      exact mixKind_int P w i t
    | inr z =>
      obtain ⟨t, rfl⟩ := r
      exact mixKind_str P w z t) (items_of_keys t)
theorem ie_lenSet (hc : X.calm = true) (hu : X.A.units + 64 < cLine) (hg : Gl X "len") (hm : X.mg "len" = none) (hg2 : Gl X "set") (hm2 : X.mg "set" = none) (ha : IE X cad a f)
    (na : starEach [a] X.env = (false, eval a X.env) :: starEach [] X.env := by rfl) : IE X cad (.Call (.Name "len" p) [.Call (.Name "set" p2) [a] [] q] [] pos) (eUn lenSetO f) := by
  refine ⟨fun pins s σ H Q I h => ?_⟩
  obtain ⟨as, st, ρ, d, st', R, E, e, P⟩ := h
  obtain ⟨⟨x, st1⟩, e1, e2⟩ := bind_some e
  refine Call_ (ld_blt I hg hm PySem.boot_len ?_)
  refine PyProof.Rows.callWith_builtin1 (PyProof.Rows.args_cons ?_ rfl) rfl rfl
  refine Call_ (ld_blt I hg2 hm2 PyProof.Rows.boot_set ?_)
  refine PyProof.Rows.callWith_type1 (PyProof.Rows.args_cons (thn (ha.run pins s σ H (fun v H1 => ∃ as1, Ext X.K as H as1 H1 ∧ Rel X.K cad as1 st1 H1 ∧ VR X.K as1 H1 x v) I (tI_run R E e1 fun as1 H1 v x1 R1 E1 r1 => ⟨as1, x1, R1, r1⟩)) fun v s1 z => PyProof.Rows.args_nil ?_) na) na rfl
  obtain ⟨y, H1, I1, ry, as1, x1, R1, r1⟩ := z
  simp only [lenSetO] at e2
  split at e2
  · rename_i ds
    split at e2
    · rename_i hk
      cases e2
      obtain ⟨ks, ek⟩ := Option.isSome_iff_exists.mp hk
      cases r1 with
      | @tup ta xs _ hs rs =>
        cases rs with
        | cons r2 rn =>
          cases rn
          cases r2 with
          | @tup tb ys _ hs2 rs2 =>
            cases ry
            have ey := keysT_to rs2 ek
            subst ey
            obtain ⟨its, rv, pl, hz⟩ := I1.tuple hs
            obtain ⟨u, rfl, ru⟩ := vals1 rv
            cases ru
            obtain ⟨its2, rv2, ⟨o, ho, hc', m, hd⟩, _⟩ := I1.tuple hs2
            refine call_set1 (P := X.prog) (w := X.w) (x := tb) (ks := ks) (I1.ok.hd hc) (by omega) pl ⟨o, its2.toArray, m, ho, hc', hd, by simpa using items_of_keys rv2⟩ fun h2 tk o es ep t g1 g2 g3 g4 g5 g6 => ?_
            refine PyProof.Rows.args_nil ?_
            have I2 : Inv X pins σ H1 { s1 with heap := h2, toks := tk } := I1.kept fun b o e => g6 b o e
            refine call_len_set g1 g2 g3 g4 (by rw [g5]; decide) ⟨.int 1, H1, I2.tok _, ⟨_, by rw [g5]; rfl⟩, (P.ext x1).now R1 (.int 1)⟩
    · cases e2
  · cases e2
end
end MP

set_option maxRecDepth 100000
namespace MP
open PySem PySem.Spec PyProof.Rows L2
section
variable {X : Cx} {cad : Cad} {e a b c tg : Expr} {f h : ME} {g : MA} {pos p apos cpos : Pos} {es : List Expr}
def insM : D → FN := fun x ds st => match x, ds with
  | .ref k, [.int i, d] => match myL st k with
    | some xs => if xs.length < LIM ∧ 0 ≤ i ∧ i < 1000000 then some (.non, st.set k (.lst (xs.take i.toNat ++ [d] ++ xs.drop i.toNat))) else none
    | none => none
  | _, _ => none
def rIns : V → List V → Hp → VK → Prop := fun x vs H Q => ∃ (l : Addr) (xs : List V) (i : Int) (y : V), x = .ref l ∧ vs = [.int i, y] ∧ H l = some (.lst xs) ∧ xs.length < sizeLine ∧ 0 ≤ i ∧ i < 2 ^ 63 ∧
  Q .non (upd H l (.lst (xs.take i.toNat ++ [y] ++ xs.drop i.toNat)))
theorem md_ins {K : PySem.W.Frag} : MtD K cad rIns insM := by
  intro as st H x v ds vs d st' Q R r1 r2 e P
  cases r1 with
  | @ref n a ha =>
    match ds, r2, e with
    | [.int i, y], .cons (.int _) (.cons r3 .nil), e =>
      simp only [insM] at e
      split at e
      · rename_i xs e1
        split at e
        · rename_i hl
          cases e
          obtain ⟨ws, q, rs⟩ := R.myL e1 ha
          refine ⟨a, ws, i, _, rfl, rfl, q, ?_, hl.2.1, by omega, P.set R e1 ha (((rs.take _).append (.cons r3 .nil)).append (rs.drop _)) .non⟩
          rw [← rs.length]
          exact lim_lt hl.1
        · cases e
      · cases e
  | _ => cases e
theorem ie_insert (ha : IE X cad a f) (hes : IA X cad (e :: es) g) (hbase : attributeBase a "insert" X.env (eval a X.env) = eval a X.env := by rfl)
    (hfew : ((backTo cpos (starEach (e :: es) X.env)).all (fun x => !x.1) && (backToKw cpos (keywordEach [] X.env)).all (fun x => x.1.isSome)
      && decide ((e :: es).length + ([] : List Keyword).length + (if ([] : List Keyword).isEmpty then 0 else 1) < 30)) = true := by rfl)
    (hline : (apos.endLine == cpos.line) = true := by rfl) (hs : starEach (e :: es) X.env = (false, eval e X.env) :: starEach es X.env := by rfl) (hplain : (backTo cpos (starEach es X.env)).any (·.1) = false := by rfl) :
    IE X cad (.Call (.Attribute a "insert" apos) (e :: es) [] cpos) (eBM isL insM f g) :=
  ie_bm (fun _ _ _ _ _ R r e => isL_ty R r e) md_ins PySem.F.plainAttrs_list PySem.F.slot_list_insert PySem.F.type_list_insert mt_insert ha hes hbase hfew hline hs hplain
def dictF : FN := fun ds st => match ds with
  | [.ref k] => (rdK st k).map fun kvs => (.ref st.length, st ++ [.dic kvs])
  | _ => none
theorem cd_dict {K : PySem.W.Frag} : CallD K cad (fun xs H Q => ∃ (a : Addr) (kvs : List (Key × V)), xs = [.ref a] ∧ Rd H a (.dK kvs) ∧ ∀ p, H p = none → Q (.ref p) (upd H p (.dK kvs))) dictF := by
  intro as st H ds vs d st' Q R r1 e P
  match ds, r1, e with
  | [.ref k], .cons (.ref ha) .nil, e =>
    obtain ⟨kvs, e1, e2⟩ := map_some e
    cases e2
    obtain ⟨xs, q, r⟩ := R.rdK e1 ha
    exact ⟨_, xs, rfl, q, fun p hp => P _ _ _ (Ext.fresh1 hp) (R.new hp ⟨xs, upd_same, Paired.map2 (fun _ _ z => ⟨z.1, z.2.mono (Ext.fresh1 hp)⟩) r⟩) (.ref (by rw [← R.len]; simp))⟩
theorem ie_toDict (hg : Gl X "dict") (hm : X.mg "dict" = none) (ha : IA X cad (e :: es) g) (he : starEach (e :: es) X.env = (false, eval e X.env) :: starEach es X.env := by rfl) (hpl : (backTo pos (starEach es X.env)).any (·.1) = false := by rfl) :
    IE X cad (.Call (.Name "dict" p) (e :: es) [] pos) (eCall dictF g) := ie_callTy cd_dict call_dictD hg hm (by decide +kernel) ha (by decide) (by decide) he hpl
def keyD : Key → D
  | .inl i => .int i
  | .inr z => .str z.cps.toList
def okK : Key → Bool
  | .inl _ => true
  | .inr z => okS z.cps.toList
theorem keyD_vr {K : PySem.W.Frag} {as : List Addr} {H : Hp} {k : Key} (h : okK k = true) : VR K as H (keyD k) (kV k) := by
  cases k with
  | inl i => exact .int i
  | inr z =>
    have r : VR K as H (.str z.cps.toList) (.str (mkS z.cps.toList)) := .str h
    rw [mkS_of] at r
    exact r
def iK (f : ME) : MI := fun ρ st => (f ρ st).bind fun p => match p.1 with
  | .ref k => match p.2[k]? with
    | some (.fd kvs) => if (kvs.all fun kv => okK kv.1) = true then some ((kvs.map fun kv => keyD kv.1, fun _ => True), p.2) else none
    | _ => none
  | _ => none
theorem paired_get {α β : Type} {F : α → β → Prop} : ∀ {l : List α} {m : List β} {i : Nat} {x : α}, Paired F l m → l[i]? = some x → ∃ y, m[i]? = some y ∧ F x y
  | _, _, _, _, .nil, h => by simp at h
  | _, _, 0, _, .cons r _, h => by
    simp at h
    subst h
    exact ⟨_, rfl, r⟩
  | _, _, i + 1, x, .cons _ t, h => by
    obtain ⟨y, h1, h2⟩ := paired_get (i := i) (x := x) t (by simpa using h)
    exact ⟨y, by simpa using h1, h2⟩
theorem paired_len {α β : Type} {F : α → β → Prop} : ∀ {l : List α} {m : List β}, Paired F l m → l.length = m.length
  | _, _, .nil => rfl
  | _, _, .cons _ t => by rw [List.length_cons, List.length_cons, paired_len t]
theorem ii_keys (ha : IE X cad e f) : II X cad tg e (iKeys (tI X.K cad f)) (iK f) := by
  refine ⟨pi_keys ha, fun σ H R => ?_⟩
  rintro ⟨as, st, ρ, ds, chk, st', Rl, E, q, P⟩
  obtain ⟨⟨x, st1⟩, e1, q⟩ := bind_some q
  refine tI_run Rl E e1 fun as1 H1 v x1 R1 E1 r1 => ?_
  cases r1 with
  | @ref k a ha =>
    simp only at q
    split at q
    · rename_i kvs e2
      split at q
      · rename_i hok
        cases q
        obtain ⟨o, xs, hx, rs⟩ := R1.ob k _ a e2 ha
        have hl := paired_len rs
        refine ⟨a, o, rfl, .inl ⟨xs, hx, P as1 H1 _ x1 R1 ⟨fun as2 st2 H2 i d x2 R2 _ hd => ?_, fun as2 st2 H2 x2 R2 _ => ?_⟩⟩⟩
        · rw [List.getElem?_map] at hd
          obtain ⟨kv, e3, rfl⟩ := map_some hd
          obtain ⟨y, e4, e5, _⟩ := paired_get rs e3
          have hi := (List.getElem?_eq_some_iff.mp e4).1
          refine ⟨⟨x2.frz _ _ _ hx, hi⟩, fun z H3 hz => ?_⟩
          obtain ⟨rfl, k2, v2, e6, rfl⟩ := hz
          rw [e4] at e6
          cases e6
          have e7 : kv.1 = k2 := e5
          rw [← e7]
          exact ⟨.refl, R2, keyD_vr (List.all_eq_true.mp hok kv (List.mem_of_getElem? e3))⟩
        · exact ⟨x2.frz _ _ _ hx, by rw [List.length_map, hl]; exact Nat.le_refl _⟩
      · cases q
    · cases q
  | _ => cases q
def eLock (f h : ME) : ME := fun ρ st => (f ρ st).bind fun p => match p.1 with
  | .ref k => match myD st k with
    | some kvs => (h ρ (st.set k (.fd kvs))).bind fun q => match q.2[k]? with
      | some (.fd es) => some (q.1, q.2.set k (.dic es))
      | _ => none
    | none => none
  | _ => none
theorem sqT_dict {K : PySem.W.Frag} {H : Hp} {q a : Addr} {u : HO} {o : Obj} {ys : List (Key × V)} {xs : List V} (hp : H q = some (.frz o (.dK ys))) (h : SqT K H a xs) : SqT K (upd H q u) a xs := by
  have ne : ∀ {w : HO}, H a = some w → (∀ o' ys', w ≠ .frz o' (.dK ys')) → a ≠ q := fun e k z => by
    subst z
    rw [hp] at e
    exact k _ _ (Option.some.inj e).symm
  rcases h with (h | ⟨ob, h⟩) | h
  · exact .inl (.inl (by rw [upd_ne (ne h fun _ _ z => by cases z)]; exact h))
  · exact .inl (.inr ⟨ob, by rw [upd_ne (ne h fun _ _ z => by cases z)]; exact h⟩)
  · exact .inr h
mutual
theorem VR.monoT {K : PySem.W.Frag} {as : List Addr} {H H' : Hp} (y : ∀ b ys, SqT K H b ys → SqT K H' b ys) : ∀ {d : D} {v : V}, VR K as H d v → VR K as H' d v
  | _, _, .non => .non
  | _, _, .bl b => .bl b
  | _, _, .int i => .int i
  | _, _, .str h => .str h
  | _, _, .tup h r => .tup (y _ _ h) (VRs.monoT y r)
  | _, _, .ref h => .ref h
theorem VRs.monoT {K : PySem.W.Frag} {as : List Addr} {H H' : Hp} (y : ∀ b ys, SqT K H b ys → SqT K H' b ys) : ∀ {ds : List D} {vs : List V}, VRs K as H ds vs → VRs K as H' ds vs
  | _, _, .nil => .nil
  | _, _, .cons a b => .cons (VR.monoT y a) (VRs.monoT y b)
end
theorem ObR.monoT {K : PySem.W.Frag} {as : List Addr} {H H' : Hp} {b : Addr} {o : Ob} (y : ∀ b ys, SqT K H b ys → SqT K H' b ys) (h : ObR K cad as H b o) (e : o.trk = true → H' b = H b) (f : ∀ u, H b = some u → (∀ o ys, u ≠ .frz o (.dK ys)) → H' b = some u) : ObR K cad as H' b o := by
  cases o with
  | lst ds =>
    obtain ⟨xs, q, r⟩ := h
    exact ⟨xs, (e rfl).trans q, r.monoT y⟩
  | fz ds =>
    obtain ⟨xs, q, r⟩ := h
    refine ⟨xs, ?_, r.monoT y⟩
    rcases q with ⟨u, q⟩ | q
    · exact .inl ⟨u, f _ q fun _ _ z => by cases z⟩
    · exact .inr q
  | dic kvs =>
    obtain ⟨xs, q, r⟩ := h
    exact ⟨xs, (e rfl).trans q, Paired.map2 (fun _ _ z => ⟨z.1, z.2.monoT y⟩) r⟩
  | fd kvs =>
    obtain ⟨o, xs, q, r⟩ := h
    exact ⟨o, xs, (e rfl).trans q, Paired.map2 (fun _ _ z => ⟨z.1, z.2.monoT y⟩) r⟩
  | ft ds =>
    obtain ⟨o, xs, q, d, r⟩ := h
    exact ⟨o, xs, f _ q (fun _ _ z => by cases z), d, r.monoT y⟩
  | ins c fs =>
    obtain ⟨dx, xs, q, r⟩ := h
    exact ⟨dx, xs, (e rfl).trans q, Paired.map2 (fun _ _ z => ⟨z.1, z.2.monoT y⟩) r⟩
theorem ie_lock (hh : IE X cad e h) : IE X cad e (eLock f h) := by
  refine pe_weak (pe_lock hh) fun σ H Q => ?_
  rintro ⟨as, st, ρ, d, st', R, E, q, P⟩
  obtain ⟨⟨x, st0⟩, hz0, q⟩ := bind_some q
  clear hz0
  simp only at q
  split at q
  · rename_i k
    split at q
    · rename_i kvs e1
      obtain ⟨⟨y, st2⟩, e2, q⟩ := bind_some q
      simp only at q
      split at q
      · rename_i es e3
        cases q
        have e0 := myD_at e1
        obtain ⟨a, ha⟩ := R.at e0
        obtain ⟨xs, hx, rs⟩ := R.ob k _ a e0 ha
        refine ⟨a, .dK xs, hx, trivial, fun od => ?_⟩
        have nt : ∀ ys, (HO.dK xs) ≠ .tup ys := fun _ z => by cases z
        have nf : ∀ ob u, (HO.dK xs) ≠ .frz ob u := fun _ _ z => by cases z
        have x1 : Ext X.K as H as (upd H a (.frz od (.dK xs))) := ⟨⟨[], by simp⟩, fun _ _ z => sqT_write hx nt nf z, fun _ _ _ z => frz_write hx nf z⟩
        have lk : k < st.length := (List.getElem?_eq_some_iff.mp e0).1
        have nx : ∀ (i : Nat) (o : Ob) (b : Addr), i ≠ k → st[i]? = some o → as[i]? = some b → o.trk = true → b ≠ a := fun i o b hi h1 h2 h3 z => by
          subst z
          exact hi (R.inj i k b o _ h2 ha h1 e0 h3 rfl)
        have R1 : Rel X.K cad as (st.set k (.fd kvs)) (upd H a (.frz od (.dK xs))) := by
          refine ⟨by simp [R.len], fun i j b o u h1 h2 h3 h4 h5 h6 => ?_, fun n o b h1 h2 => ?_⟩
          · have back : ∀ (i : Nat) (o : Ob), (st.set k (.fd kvs))[i]? = some o → o.trk = true → ∃ o', st[i]? = some o' ∧ o'.trk = true := fun i o z w => by
              by_cases hi : i = k
              · subst hi
                exact ⟨_, e0, rfl⟩
              · rw [List.getElem?_set_ne (Ne.symm hi)] at z
                exact ⟨o, z, w⟩
            obtain ⟨o', a1, a2⟩ := back i o h3 h5
            obtain ⟨u', a3, a4⟩ := back j u h4 h6
            exact R.inj i j b o' u' h1 h2 a1 a3 a2 a4
          · by_cases hn : n = k
            · subst hn
              rw [List.getElem?_set_self lk] at h1
              cases h1
              rw [ha] at h2
              cases h2
              exact ⟨od, xs, upd_same, Paired.map2 (fun _ _ z => ⟨z.1, z.2.mono x1⟩) rs⟩
            · rw [List.getElem?_set_ne (Ne.symm hn)] at h1
              exact (R.ob n o b h1 h2).mono x1 (fun w => by rw [upd_ne (nx n o b hn h1 h2 (own_trk w))]) fun o' u z => frz_write hx nf z
        refine ⟨as, st.set k (.fd kvs), ρ, _, st2, R1, E.mono x1, e2, fun as2 H2 v x2 R2 r2 => ?_⟩
        have hf : H2 a = some (.frz od (.dK xs)) := x2.frz _ _ _ upd_same
        refine ⟨hf, ?_⟩
        have ha2 := x2.at ha
        obtain ⟨od', xs', hf', rs2⟩ := R2.ob k _ a e3 ha2
        rw [hf] at hf'
        cases hf'
        have lk2 : k < st2.length := (List.getElem?_eq_some_iff.mp e3).1
        have y1 : ∀ b ys, SqT X.K H2 b ys → SqT X.K (upd H2 a (.dK xs)) b ys := fun b ys z => sqT_dict hf z
        have mon : ∀ {d : D} {v : V}, VR X.K as2 H2 d v → VR X.K as2 (upd H2 a (.dK xs)) d v := fun z => VR.monoT y1 z
        have nx2 : ∀ (i : Nat) (o : Ob) (b : Addr), i ≠ k → st2[i]? = some o → as2[i]? = some b → o.trk = true → b ≠ a := fun i o b hi h1 h2 h3 z => by
          subst z
          exact hi (R2.inj i k b o _ h2 ha2 h1 e3 h3 rfl)
        have x4 : Ext X.K as H as2 (upd H2 a (.dK xs)) := by
          refine ⟨x2.pre, fun b ys z => y1 b ys (x2.tup b ys (x1.tup b ys z)), fun b o u z => ?_⟩
          have nb : b ≠ a := ne_of z hx (fun w => nf _ _ w.symm)
          rw [upd_ne nb]
          exact x2.frz b o u (by rw [upd_ne nb]; exact z)
        refine P as2 _ v x4 ⟨by simp [R2.len], fun i j b o u h1 h2 h3 h4 h5 h6 => ?_, fun n o b h1 h2 => ?_⟩ (mon r2)
        · have back : ∀ (i : Nat) (o : Ob), (st2.set k (.dic es))[i]? = some o → o.trk = true → ∃ o', st2[i]? = some o' ∧ o'.trk = true := fun i o z w => by
            by_cases hi : i = k
            · subst hi
              exact ⟨_, e3, rfl⟩
            · rw [List.getElem?_set_ne (Ne.symm hi)] at z
              exact ⟨o, z, w⟩
          obtain ⟨o', a1, a2⟩ := back i o h3 h5
          obtain ⟨u', a3, a4⟩ := back j u h4 h6
          exact R2.inj i j b o' u' h1 h2 a1 a3 a2 a4
        · by_cases hn : n = k
          · subst hn
            rw [List.getElem?_set_self lk2] at h1
            cases h1
            rw [ha2] at h2
            cases h2
            exact ⟨xs, upd_same, Paired.map2 (fun _ _ z => ⟨z.1, mon z.2⟩) rs2⟩
          · rw [List.getElem?_set_ne (Ne.symm hn)] at h1
            exact (R2.ob n o b h1 h2).monoT y1 (fun ht => by rw [upd_ne (nx2 n o b hn h1 h2 ht)]) fun u w nw => by
              have nb : b ≠ a := fun z => by
                subst z
                rw [hf] at w
                exact nw _ _ (Option.some.inj w).symm
              rw [upd_ne nb]
              exact w
      · cases q
    · cases q
  · cases q
end
end MP

set_option maxRecDepth 100000
namespace MP
open PySem PySem.Spec PyProof.Rows L2
section
variable {X : Cx} {cad : Cad} {e a b c : Expr} {f h : ME} {g : MA} {pos p apos cpos : Pos} {es : List Expr}
theorem ie_isC2 {y y2 : Str} {n n2 all : Nat} {subs subs2 : List Nat} {p2 p3 tpos : Pos} {kk : Nat} (T : IsF X.K cad n subs all) (T2 : IsF X.K cad n2 subs2 all) (hg : Gl X "isinstance") (hm : X.mg "isinstance" = none) (ha : IE X cad a f)
    (hgy : Gl X y) (hmy : X.mg y = some (.ref (cad n))) (hgy2 : Gl X y2) (hmy2 : X.mg y2 = some (.ref (cad n2))) (hdy : (y == ("__debug__" : Str)) = false := by decide) (hdy2 : (y2 == ("__debug__" : Str)) = false := by decide)
    (hs : starEach [a, .Tuple [.Name y p2, .Name y2 p3] kk tpos] X.env = (false, eval a X.env) :: starEach [.Tuple [.Name y p2, .Name y2 p3] kk tpos] X.env := by rfl)
    (hs2 : starEach [.Tuple [.Name y p2, .Name y2 p3] kk tpos] X.env = [(false, eval (.Tuple [.Name y p2, .Name y2 p3] kk tpos) X.env)] := by rfl)
    (hs3 : starEach [.Name y p2, .Name y2 p3] X.env = (false, eval (.Name y p2) X.env) :: starEach [.Name y2 p3] X.env := by rfl) (hs4 : starEach [.Name y2 p3] X.env = [(false, eval (.Name y2 p3) X.env)] := by rfl)
    (hpl : (backTo pos (starEach [.Tuple [.Name y p2, .Name y2 p3] kk tpos] X.env)).any (·.1) = false := by rfl) : IE X cad (.Call (.Name "isinstance" p) [a, .Tuple [.Name y p2, .Name y2 p3] kk tpos] [] pos) (eUn (isCM (subs ++ subs2) all) f) := by
  refine pe_weak (pe_callB call_isiT hg hm (by decide +kernel) (pa_cons ha (pa_cons (pe_tup (pa_cons (pe_glob hgy hmy (v := .ref (cad n)) rfl hdy) (pa_cons (pe_glob hgy2 hmy2 (v := .ref (cad n2)) rfl hdy2) pa_nil hs4) hs3)) pa_nil hs2) hs) (by decide) (by decide) hs hpl) fun σ H Q => ?_
  rintro ⟨as, st, ρ, d, st', R, E, q, P⟩
  obtain ⟨⟨x, st1⟩, e1, q⟩ := bind_some q
  obtain ⟨k, e2, e3⟩ := map_some q
  cases e3
  refine tI_run R E e1 fun as1 H1 v x1 R1 E1 r1 => ⟨by show 2 ≤ sizeLine; rw [sizeLine_eq]; omega, fun q hq => ?_⟩
  have fin : ∀ t b1 b2, TyX X.K (upd H1 q (.tup [.ref (cad n), .ref (cad n2)])) v t → PySem.W.kitOne X.K t (.ref (cad n)) = some b1 → PySem.W.kitOne X.K t (.ref (cad n2)) = some b2 → k = (b1 || b2) →
      rIsiT X.K [v, .ref q] (upd H1 q (.tup [.ref (cad n), .ref (cad n2)])) Q := fun t b1 b2 ht h1 h2 hk => by
    refine ⟨v, q, _, t, [.ref (cad n), .ref (cad n2)], k, rfl, upd_same, .cons (.own _) (.cons (.own _) .nil), ht, ?_, ?_⟩
    · refine kitAny_cons h1 (fun z => ?_) (fun z => by rw [hk, z]; rfl)
      refine kitAny_cons h2 (fun z2 => ?_) (fun z2 => by rw [hk, z2, Bool.or_true])
      rw [hk, z, z2]
      rfl
    · exact P as1 _ (.bl k) (x1.trans (Ext.fresh hq)) (R1.fresh hq) (.bl k)
  cases r1 with
  | non =>
    cases e2
    exact fin _ _ _ (.base .non) T.non T2.non rfl
  | @ref m a' ha' =>
    simp only [isCO] at e2
    split at e2
    · rename_i c' fs e4
      split at e2
      · rename_i hc
        cases e2
        obtain ⟨dx, xs, q', rr⟩ := R1.ob m _ a' e4 ha'
        obtain ⟨h1, h2, h3⟩ := T.cls c' hc
        refine fin _ _ _ (.base (.ins (by rw [upd_ne (ne_of_none q' hq)]; exact q') h1 h2 T.hn T.htk h3)) (T.own c' hc) (T2.own c' hc) ?_
        simp [List.mem_append]
      · cases e2
    · cases e2
  | _ => cases e2
structure MtFact (P : Program) (w : World) (K : PySem.W.Frag) (mg : Str → Option Value) (base : Heap) (cad : Cad) (m : Str) (k : Nat) (c : Nat) (F : FN) : Prop where
  ex : ∃ (f : Addr) (fd : FuncData) (ps : List Str), Cls K (cad c) ∧ Meth K (cad c) m f ∧ FnOk P w K mg base CX0 k f fd ps (spOf K cad F) ∧ Binds K fd ps []
def eMth (m : Str) (tab : List (Nat × FN)) (f : ME) (g : MA) : ME := fun ρ st => (f ρ st).bind fun p => match p.1 with
  | .ref k => match p.2[k]? with
    | some (.ins c fs) => match fs.lookup m, tab.lookup c with
      | none, some F => (g ρ p.2).bind fun q => F (.ref k :: q.1) q.2
      | _, _ => none
    | _ => none
  | _ => none
theorem lookup_tab {α : Type} {c : Nat} {y : α} : ∀ tab : List (Nat × α), tab.lookup c = some y → (c, y) ∈ tab
  | [], e => by cases e
  | (k, x) :: r, e => by
    by_cases hk : (c == k) = true
    · simp only [List.lookup, hk] at e
      cases e
      rw [beq_iff_eq.mp hk]
      exact .head _
    · have hk' : (c == k) = false := by
        cases hb : (c == k) with
        | true => exact absurd hb hk
        | false => rfl
      simp only [List.lookup, hk'] at e
      exact .tail _ (lookup_tab r e)
theorem fr_none {K : PySem.W.Frag} {as : List Addr} {H : Hp} {m : Str} : ∀ {fs : List (Str × D)} {xs : List (Str × V)}, FR K as H fs xs → fs.lookup m = none → xs.lookup m = none
  | _, _, .nil, _ => rfl
  | (k, x) :: r, (k', v) :: r', .cons h t, e => by
    obtain ⟨h1, _⟩ := h
    cases (show k = k' from h1)
    cases hk : (m == k) with
    | true =>
      simp only [List.lookup, hk] at e
      cases e
    | false =>
      simp only [List.lookup, hk] at e ⊢
      exact fr_none t e
theorem ie_meth {m : Str} {tab : List (Nat × FN)} {k : Nat} {pl : Sem Bool} (T : ∀ p ∈ tab, MtFact X.prog X.w X.K X.mg X.base cad m k p.1 p.2) (hr : Room k X.A) (ha : IE X cad a f) (hes : IA X cad (e :: es) g)
    (hst : starEach (e :: es) X.env = (false, eval e X.env) :: starEach es X.env := by rfl) (hpl : (backTo pos (starEach es X.env)).any (·.1) = false := by rfl)
    (ht : eval (.Call (.Attribute a m apos) (e :: es) [] pos) X.env = (do
      let v ← eval a X.env
      standAt apos.atName
      let (f, first) ← holding [v] (getMethod v m pl)
      callWith pos f first (backTo pos (starEach (e :: es) X.env)) (backToKw pos (keywordEach [] X.env))) := by rfl) :
    IE X cad (.Call (.Attribute a m apos) (e :: es) [] pos) (eMth m tab f g) := by
  refine ⟨fun pins s σ H Q I z => ?_⟩
  obtain ⟨as, st, ρ, d, st', R, E, q, P⟩ := z
  obtain ⟨⟨x, st1⟩, e1, q⟩ := bind_some q
  simp only at q
  split at q
  · rename_i n
    split at q
    · rename_i c fs e2
      split at q
      · rename_i F e3 e4
        obtain ⟨fa, fd, ps, h1, h2, h3, h4⟩ := (T (c, F) (lookup_tab tab e4)).ex
        have go := pe_meth (pl := pl) (E := E0) (dvs := []) (apos := apos) (pos := pos) ha h1 h2 h3 hr h4 .nil pass0 hes hst hpl ht
        refine go.run pins s σ H Q I (tI_run R E e1 fun as1 H1 v x1 R1 E1 r1 => ?_)
        cases r1 with
        | @ref _ b hb =>
          obtain ⟨dx, xs, q', rr⟩ := R1.ob n _ b e2 hb
          refine ⟨b, dx, xs, rfl, q', fr_none rr e3, ?_⟩
          obtain ⟨⟨ys, st2⟩, e5, q⟩ := bind_some q
          refine tIA_run R1 E1 e5 fun as2 H2 vs x2 R2 E2 r2 => ?_
          rw [List.append_nil]
          exact ⟨as2, st2, .ref n :: ys, d, st', R2, .cons (.ref (x2.at hb)) r2, q, P.ext (x1.trans x2)⟩
      · cases q
    · cases q
  · cases q
def opAddF : O2 := fun x y st => match x, y with
  | .tup l, .tup m => if l ≠ [] ∧ m ≠ [] ∧ l.length + m.length ≤ LIM then some (.ref st.length, st ++ [.ft (l ++ m)]) else none
  | _, _ => none
def rAddF (K : PySem.W.Frag) : R2 := fun x y H Q => ∃ a b xs ys, x = .ref a ∧ y = .ref b ∧ SqT K H a xs ∧ SqT K H b ys ∧ xs ≠ [] ∧ ys ≠ [] ∧ xs.length + ys.length ≤ sizeLine ∧
  ∀ q od, H q = none → od.dict = none → Q (.ref q) (upd H q (.frz od (.tup (xs ++ ys))))
theorem op_addF : OpR X (binaryOp .Add) (rAddF X.K) := by
  intro pins s σ H x y v u Q I rx ry z
  obtain ⟨a, b, xs, ys, rfl, rfl, h1, h2, n1, n2, hz, q⟩ := z
  cases rx
  cases ry
  obtain ⟨us, r1, p1, _⟩ := I.tuple h1
  obtain ⟨ws, r2, p2, _⟩ := I.tuple h2
  refine HT.cat_tup p1 p2 (fun z => n1 (r1.nil_iff.mp z)) (fun z => absurd (r2.nil_iff.mp z) n2) (fun _ => ?_) (by rw [← r1.length, ← r2.length]; exact hz)
  refine ⟨.ref s.heap.objs.size, _, I.laid (t' := s.toks) (o := .frz _ (.tup (xs ++ ys))) (fun c ob w => Heap.get?_push_of_some _ w) (Nat.le_refl _) ⟨Heap.get?_push_size _ rfl, ?_⟩, rfl, q _ _ (I.hok.fresh (Nat.le_refl _)) rfl⟩
  exact ⟨by rw [List.length_append]; exact hz, _, r1.append r2, IsTup.new _ _⟩
theorem od_addF {K : PySem.W.Frag} : OpD K cad (rAddF K) opAddF := by
  intro as st H x y v w d st' Q R r1 r2 e P
  cases r1 with
  | @tup a xs ds hs rs =>
    cases r2 with
    | @tup b ys es hs2 rs2 =>
      simp only [opAddF] at e
      split at e
      · rename_i hl
        cases e
        refine ⟨a, b, xs, ys, rfl, rfl, hs, hs2, fun z => ?_, fun z => ?_, by rw [← rs.length, ← rs2.length]; exact lim_ok hl.2.2, fun q od hq hd => ?_⟩
        · subst z
          cases rs
          exact hl.1 rfl
        · subst z
          cases rs2
          exact hl.2.1 rfl
        · exact P _ _ _ (Ext.fresh1 hq) (R.new hq ⟨od, _, upd_same, hd, (rs.append rs2).mono (Ext.fresh1 hq)⟩) (.ref (by rw [← R.len]; simp))
      · cases e
    | _ => cases e
  | _ => cases r2 <;> cases e
theorem ie_addF (ha : IE X cad a f) (hb : IE X cad b h) : IE X cad (.BinOp a .Add b pos) (eBin opAddF f h) := ie_bin op_addF od_addF ha hb
def slF (x : D) (lo hi : Option Int) (st : Sto) : Option (D × Sto) := match x with
  | .ref k => match st[k]? with
    | some (.ft ds) => if HT.sIx ds.length 0 lo = 0 ∧ HT.sIx ds.length ds.length hi = ds.length then none else some (.tup (cutG ds lo hi), st)
    | _ => none
  | _ => none
def eSlF (f : ME) (p q : MO) : ME := fun ρ st => (f ρ st).bind fun x => (p ρ x.2).bind fun y => (q ρ y.2).bind fun z => slF x.1 y.1 z.1 z.2
theorem ie_slF {lo hi : Option Expr} {p q : MO} {p2 : Pos} (ha : IE X cad a f) (hl : IO' X cad lo p) (hh : IO' X cad hi q) : IE X cad (.Subscript a (.Slice lo hi none p2) pos) (eSlF f p q) := by
  refine pe_weak (pe_slice sl_tup ha hl hh) fun σ H Q => ?_
  rintro ⟨as, st, ρ, d, st', R, E, w, P⟩
  obtain ⟨⟨x, st1⟩, e1, w⟩ := bind_some w
  obtain ⟨⟨y, st2⟩, e2, w⟩ := bind_some w
  obtain ⟨⟨z, st3⟩, e3, w⟩ := bind_some w
  refine tI_run R E e1 fun as1 H1 v x1 R1 E1 r1 => ⟨as1, st1, ρ, y, st2, R1, E1, e2, fun as2 H2 x2 R2 => ⟨as2, st2, ρ, z, st3, R2, E1.mono x2, e3, fun as3 H3 x3 R3 => ?_⟩⟩
  have r3 := r1.mono (x2.trans x3)
  have P3 := P.ext (x1.trans (x2.trans x3))
  cases r3 with
  | @ref k b hb =>
    simp only [slF] at w
    split at w
    · rename_i ds e4
      split at w
      · cases w
      · rename_i hz
        cases w
        obtain ⟨od, xs, q4, _, rs⟩ := R3.ob k _ b e4 hb
        refine ⟨b, xs, rfl, .inl (.inr ⟨od, q4⟩), ?_, fun p hp => P3.tup R3 (rs.cut y z) hp⟩
        rw [← rs.length]
        exact hz
    · cases w
  | _ => cases w
def rTix (K : PySem.W.Frag) : V → List V → Hp → VK → Prop := fun x xs H Q => ∃ (a : Addr) (ys : List V) (y : V) (d : PyData) (ds : List PyData) (j : Nat) (z : PyData), x = V.ref a ∧ xs = [y] ∧ SqT K H a ys ∧ DpAll K H ys ds ∧ PyData.canLayAll0 ds = true ∧ Dp K H y d ∧
  d.canLay0 = true ∧ d.depth ≤ 60 ∧ ds[j]? = some z ∧ PyData.eqv z d = true ∧ (∀ (m : Nat) (z' : PyData), m < j → ds[m]? = some z' → PyData.eqv z' d = false) ∧ Q (.int (j : Nat)) H
theorem mt_tix (hu : X.A.units + 64 < cLine) : MtR X "tuple.index" (rTix X.K) := by
  intro pins s σ H x xs v us Q I rx rxs z
  obtain ⟨a, ys, y, d, ds, j, z0, rfl, rfl, ht, da, ca, dy, cd, dd, hz, hj, hn, q⟩ := z
  cases rx
  obtain ⟨uy, rfl, ry⟩ := vals1 rxs
  obtain ⟨bs, r1⟩ := Dp.reads I d y uy dy ry
  obtain ⟨its, rv, pl, _⟩ := I.tuple ht
  obtain ⟨⟨c0, d0, e0, f0⟩, ho, hc, n, hd⟩ := pl
  simp only at hc hd
  subst hc
  subst hd
  obtain ⟨as, h4⟩ := Dp.readsAll I ds ys its da rv
  have hn1 : its.length = ds.length := SeqAt.ReadsAll.length ds its as h4
  have hm1 : its.map (SeqAt.readOf s.heap) = ds := SeqAt.readsAll_map ds its as ca h4
  have hj1 : j < its.toArray.size := by
    have := (List.getElem?_eq_some_iff.mp hz).1
    rw [List.size_toArray]
    omega
  have get : ∀ (m : Nat) (hm : m < its.toArray.size) (z' : PyData), ds[m]? = some z' → SeqAt.readOf s.heap its.toArray[m] = z' := fun m hm z' e => by
    have hml : m < its.length := by simpa using hm
    rw [← hm1, List.getElem?_map, List.getElem?_eq_getElem hml] at e
    have e1 : SeqAt.readOf s.heap its[m] = z' := Option.some.inj e
    simpa using e1
  refine call_meets PySem.F.slot_tuple_index ⟨_, ho, rfl⟩ PySem.F.entry_tuple_index (PySem.F.args_tuple_index_2 _ _) (_root_.TI.tuple_indexAt a its.toArray n d0 f0 uy (fun u => PyData.eqv (SeqAt.readOf s.heap u) d) j hj1 ?_ ?_)
    ⟨ho, SeqAt.items_eqAt (vs := its.toArray) (show ReadsAll s.heap its.toArray.toList ds as from h4) r1 ca cd (by have : min (PyData.depthAll ds) d.depth ≤ d.depth := Nat.min_le_right _ _; omega), ⟨.int (j : Nat), H, I.tok _, ⟨_, rfl⟩, q⟩⟩
  · show PyData.eqv (SeqAt.readOf s.heap its.toArray[j]) d = true
    rw [get j hj1 z0 hz]
    exact hj
  · intro m hm hmj
    have hmd : m < ds.length := by
      have : m < its.length := by simpa using hm
      omega
    show PyData.eqv (SeqAt.readOf s.heap its.toArray[m]) d = false
    rw [get m hm _ (List.getElem?_eq_getElem hmd)]
    exact hn m _ hmj (List.getElem?_eq_getElem hmd)
def tixO (st : Sto) (k : Nat) (y : D) : Option D := match st[k]? with
  | some (.ft ds) => match mapO (toP st DEEP) ds, toP st DEEP y with
    | some ps, some q => (ps.findIdx? fun z => PyData.eqv z q).map fun j => .int (j : Nat)
    | _, _ => none
  | _ => none
def eTix (f h : ME) : ME := fun ρ st => (f ρ st).bind fun p => match p.1 with
  | .ref k => match p.2[k]? with
    | some (.ft _) => (h ρ p.2).bind fun q => (tixO q.2 k q.1).map fun d => (d, q.2)
    | _ => none
  | _ => none
theorem ie_tix (hu : X.A.units + 64 < cLine) (ha : IE X cad a f) (hb : IE X cad b h) (hbase : attributeBase a "index" X.env (eval a X.env) = eval a X.env := by rfl)
    (hfew : ((backTo cpos (starEach [b] X.env)).all (fun x => !x.1) && (backToKw cpos (keywordEach [] X.env)).all (fun x => x.1.isSome)
      && decide ([b].length + ([] : List Keyword).length + (if ([] : List Keyword).isEmpty then 0 else 1) < 30)) = true := by rfl)
    (hline : (apos.endLine == cpos.line) = true := by rfl) (hs : starEach [b] X.env = (false, eval b X.env) :: starEach [] X.env := by rfl) (hplain : (backTo cpos (starEach [] X.env)).any (·.1) = false := by rfl) :
    IE X cad (.Call (.Attribute a "index" apos) [b] [] cpos) (eTix f h) := by
  refine ⟨fun pins s σ H Q I z => ?_⟩
  obtain ⟨as, st, ρ, d, st', R, E, q, P⟩ := z
  obtain ⟨⟨x, st1⟩, e1, q⟩ := bind_some q
  simp only at q
  split at q
  · rename_i k
    split at q
    · rename_i ds0 e2
      obtain ⟨⟨y, st2⟩, e3, q⟩ := bind_some q
      obtain ⟨d', e4, e5⟩ := map_some q
      cases e5
      refine wpAny_Call_method_late hbase hfew hline rfl (thn (ha.run pins s σ H (fun v H1 => ∃ as1, Ext X.K as H as1 H1 ∧ Rel X.K cad as1 st1 H1 ∧ ER X.K as1 H1 ρ σ ∧ VR X.K as1 H1 (.ref k) v) I (tI_run R E e1 fun as1 H1 v x1 R1 E1 r1 => ⟨as1, x1, R1, E1, r1⟩)) fun v s1 z => ?_)
      obtain ⟨x, H1, I1, rx, as1, x1, R1, E1, r1⟩ := z
      cases r1 with
      | @ref _ ta hta =>
        obtain rfl : v = Value.ref ta := rx
        obtain ⟨od, xs, hf, hdn, rs⟩ := R1.ob k _ ta e2 hta
        obtain ⟨go, _, _, _, o2, g2, g3, _⟩ := (show ObjOk X.prog X.w H1 s1.heap ta (.frz od (.tup xs)) from I1.hok ta _ hf)
        rw [go] at g2
        cases g2
        refine ⟨"tuple", "tuple.index", PySem.F.plainAttrs_tuple, PySem.F.slot_tuple_index, PySem.F.type_tuple_index, ⟨_, go, g3⟩, (fun b z => by cases z; exact ⟨_, go, hdn⟩), ?_⟩
        have hA := (pa_cons hb pa_nil hs).run cpos pins s1 σ H1 (fun vs H2 => ∃ as2 w, vs = [w] ∧ Ext X.K as1 H1 as2 H2 ∧ Rel X.K cad as2 st2 H2 ∧ VR X.K as2 H2 y w) I1 (tI_run R1 E1 e3 fun as2 H2 w x2 R2 E2 r2 => ⟨as2, w, rfl, x2, R2, r2⟩)
        rw [hs] at hA ⊢
        refine Calls.callWith_builtin (by show (false || (backTo cpos (starEach [] X.env)).any (·.1)) = false; rw [hplain] <;> rfl) (Calls.evalArgs_plain ?_)
        refine thn hA fun us s2 z => ?_
        obtain ⟨vs, H2, I2, rv, as2, w, rfl, x2, R2, r2⟩ := z
        simp only [tixO] at e4
        split at e4
        · rename_i ds e6
          split at e4
          · rename_i ps qd e7 e8
            obtain ⟨j, e9, rfl⟩ := map_some e4
            obtain ⟨od2, ys, hf2, _, rs2⟩ := R2.ob k _ ta e6 (x2.at hta)
            obtain ⟨t1, t2, t3⟩ := toP_all (toP_ok R2 DEEP) rs2 e7
            obtain ⟨t4, t5, t6⟩ := toP_ok R2 _ _ _ _ r2 e8
            obtain ⟨hj1, hj2, hj3⟩ := List.findIdx?_eq_some_iff_getElem.mp e9
            refine mt_tix hu pins s2 σ H2 (.ref ta) [w] (.ref ta) us Q I2 rfl rv ⟨ta, ys, w, qd, ps, j, ps[j], rfl, rfl, .inl (.inr ⟨od2, hf2⟩), t1, t2, t4, t5, Nat.le_trans t6 (by decide), List.getElem?_eq_getElem hj1, hj2, fun m z' hm hz => ?_, (P.ext (x1.trans x2)).now R2 (.int _)⟩
            have hml : m < ps.length := by omega
            have := hj3 m hm
            rw [List.getElem?_eq_getElem hml] at hz
            cases hz
            simpa using this
          · cases e4
        · cases e4
    · cases q
  · cases q
end
section
variable {P : Program} {w : World} {K : PySem.W.Frag} {mg : Str → Option Value} {base : Heap} {cad : Cad}
structure MtAt (K : PySem.W.Frag) (C : Addr) (m qual : Str) (st : Stmt) (ps : List Str) : Prop where
  ex : ∃ (f : Addr) (fd : FuncData), Cls K C ∧ Meth K C m f ∧ Fun K m qual st f fd ∧ Binds K fd ps []
theorem mtAt_mk {m qual : Str} {C : Addr} {st : Stmt} {ps : List Str} {f : Addr} {od an : Option Addr} {sl : Array (Option Value)} {oc kV dc pm cd ct : Value}
    (cl : Cls K C) (a : PySem.W.findIn K (.ref C) m = some (some (.ref f))) (i : PySem.W.isFn K (.ref f) = true)
    (l : K.lookup f = some ⟨oc, od, .func (PySem.W.fnOf m qual (defArgs st) (defBody st) (defScope st) .none kV dc pm an cd ct), sl⟩) (c : PySem.W.codeIn K cd qual = true) (k : PySem.W.keepIn K (.ref f) = true)
    (hb : ∀ (kV doc pm : Value) (an : Option Addr) (cdv ct : Value) (us : List Value), us.length = ps.length → bindArgs (PySem.W.fnOf m qual (defArgs st) (defBody st) (defScope st) .none kV doc pm an cdv ct) ⟨us, []⟩ = pure (ps.zip us)) : MtAt K C m qual st ps :=
  ⟨f, _, cl, ⟨a, i, k⟩, fun_mk l c k, (fun_mk l c k).binds hb⟩
theorem mt_fact {m qual : Str} {st : Stmt} {N ps : List Str} {k c : Nat} {u : MS} (A : MtAt K (cad c) m qual st ps) (S : FnScope N ps (defScope st))
    (hbody : ∀ (fa : Addr) (cdv : Value) (A : Around) (outer : List Env) (s : Shared) (H : Hp) (E : XK), Room k (A.deeper (envOfC qual (defScope st) s.heap.objs.size fa cdv)) → ISs (cxOf CX0 P w K mg base N qual (defScope st) fa cdv A outer s H E).nox cad (defBody st) u) :
    MtFact P w K mg base cad m (k + 1) c (mkFn N.length ps.length u) := by
  obtain ⟨f, fd, cl, hm, F, hb⟩ := A.ex
  exact ⟨f, fd, ps, cl, hm, fn_ok F S (fun cdv A outer s H E hr => hbody f cdv A outer s H E hr), hb⟩
theorem MtFact.more {m : Str} {k k' c : Nat} {F : FN} (h : MtFact P w K mg base cad m k c F) (hk : k ≤ k') : MtFact P w K mg base cad m k' c F := by
  obtain ⟨f, fd, ps, h1, h2, G, r⟩ := h.ex
  exact ⟨f, fd, ps, h1, h2, G.mono hk, r⟩
end
end MP

set_option maxRecDepth 100000
namespace MP
open PySem PySem.Spec PyProof.Rows L2
section
variable {X : Cx} {cad : Cad}
def emO (st : Sto) (x y : D) : Option Bool := match x, y with
  | .ref k, .ref n => match rdL st k, rdL st n with
    | some ds, some [] => some ds.isEmpty
    | _, _ => none
  | _, _ => none
def kEqE : O2 := fun x y st => (emO st x y).map fun b => (.bl b, st)
def kNeE : O2 := fun x y st => (emO st x y).map fun b => (.bl (!b), st)
theorem kEqE_at {x y : D} {st : Sto} : kEqE x y st = kBl st (emO st x y) := rfl
theorem kNeE_at {x y : D} {st : Sto} : kNeE x y st = kBlN st (emO st x y) := rfl
theorem emO_some {st : Sto} {k n : Nat} {ds : List D} (h : rdL st k = some ds) (h2 : rdL st n = some []) : emO st (.ref k) (.ref n) = some ds.isEmpty := by
  unfold emO
  simp only [h, h2]
def rEm (K : PySem.W.Frag) (neg : Bool) : R2 := fun x y H Q => ∃ a b xs, x = .ref a ∧ y = .ref b ∧ SqL K H a xs ∧ SqL K H b [] ∧ Q (.bl (if neg then !xs.isEmpty else xs.isEmpty)) H
theorem op_eqE (hu : X.A.units + 64 < cLine) : OpR X (compareOp .Eq) (rEm X.K false) := by
  intro pins s σ H x y v u Q I rx ry z
  obtain ⟨a, b, xs, rfl, rfl, h1, h2, q⟩ := z
  cases rx
  cases ry
  obtain ⟨us, r1, p1, _⟩ := I.list h1
  obtain ⟨ws, r2, p2, _⟩ := I.list h2
  cases r2
  cases r1 with
  | nil => exact SeqAt.RcAt.lists p1.isList p2.isList rfl (by omega) (e := fun _ => true) (fun j z => by simp at z) X.prog X.w _ _ ⟨.bl true, H, I, rfl, q⟩
  | cons _ _ => exact SeqAt.RcAt.lists_lengths p1.isList p2.isList (by simp) (by omega) X.prog X.w _ _ ⟨.bl false, H, I, rfl, q⟩
theorem op_neE (hu : X.A.units + 64 < cLine) : OpR X (compareOp .NotEq) (rEm X.K true) := by
  intro pins s σ H x y v u Q I rx ry z
  obtain ⟨a, b, xs, rfl, rfl, h1, h2, q⟩ := z
  cases rx
  cases ry
  obtain ⟨us, r1, p1, _⟩ := I.list h1
  obtain ⟨ws, r2, p2, _⟩ := I.list h2
  cases r2
  cases r1 with
  | nil => exact SeqAt.RcNeAt.lists p1.isList p2.isList rfl (by omega) (e := fun _ => true) (fun j z => by simp at z) X.prog X.w _ _ ⟨.bl false, H, I, rfl, q⟩
  | cons _ _ => exact SeqAt.RcNeAt.lists_lengths p1.isList p2.isList (by simp) (by omega) X.prog X.w _ _ ⟨.bl true, H, I, rfl, q⟩
theorem emO_to {K : PySem.W.Frag} {as : List Addr} {st : Sto} {H : Hp} {x y : D} {v w : V} {c neg : Bool} {Q : VK} (R : Rel K cad as st H) (r1 : VR K as H x v) (r2 : VR K as H y w) (e : emO st x y = some c) (P : Post K cad as H st (.bl (if neg then !c else c)) Q) : rEm K neg v w H Q := by
  cases r1 with
  | @ref k a ha =>
    cases r2 with
    | @ref n b hb =>
      simp only [emO] at e
      split at e
      · rename_i ds e1 e2
        cases e
        obtain ⟨xs, h1, rs⟩ := R.rdL e1 ha
        obtain ⟨ys, h2, rs2⟩ := R.rdL e2 hb
        cases rs2
        exact ⟨a, b, xs, rfl, rfl, h1, h2, by rw [← rs.isEmpty]; exact P.now R (.bl _)⟩
      · cases e
    | _ => cases e
  | _ => cases r2 <;> cases e
theorem od_eqE {K : PySem.W.Frag} : OpD K cad (rEm K false) kEqE := by
  intro as st H x y v w d st' Q R r1 r2 e P
  obtain ⟨c, e1, e2⟩ := map_some e
  cases e2
  exact emO_to (neg := false) R r1 r2 e1 P
theorem od_neE {K : PySem.W.Frag} : OpD K cad (rEm K true) kNeE := by
  intro as st H x y v w d st' Q R r1 r2 e P
  obtain ⟨c, e1, e2⟩ := map_some e
  cases e2
  exact emO_to (neg := true) R r1 r2 e1 P
theorem cm_eqE (hu : X.A.units + 64 < cLine) : Cmp X cad .Eq kEqE := ⟨⟨_, op_eqE hu, od_eqE⟩⟩
theorem cm_neE (hu : X.A.units + 64 < cLine) : Cmp X cad .NotEq kNeE := ⟨⟨_, op_neE hu, od_neE⟩⟩
theorem bl_eqE : IsBl kEqE := by
  intro x y st d st' e
  obtain ⟨b, _, e2⟩ := map_some e
  cases e2
  exact ⟨_, rfl⟩
theorem bl_neE : IsBl kNeE := by
  intro x y st d st' e
  obtain ⟨b, _, e2⟩ := map_some e
  cases e2
  exact ⟨_, rfl⟩
def noO (st : Sto) (x y : D) : Option Bool := match x, y with
  | .non, .ref k => match rdL st k with
    | some ds => if (ds.all fun d => isL st d) = true then some false else none
    | _ => none
  | _, _ => none
def kInN : O2 := fun x y st => (noO st x y).map fun b => (.bl b, st)
theorem kInN_at {x y : D} {st : Sto} : kInN x y st = kBl st (noO st x y) := rfl
def rNo (K : PySem.W.Frag) : R2 := fun x y H Q => ∃ b xs, x = .non ∧ y = .ref b ∧ SqL K H b xs ∧ (∀ z ∈ xs, ∃ c zs, z = V.ref c ∧ SqL K H c zs) ∧ Q (.bl false) H
theorem op_inN (hu : X.A.units + 64 < cLine) : OpR X (compareOp .In) (rNo X.K) := by
  intro pins s σ H x y v u Q I rx ry z
  obtain ⟨b, xs, rfl, rfl, h1, h2, q⟩ := z
  cases rx
  cases ry
  obtain ⟨us, r1, p1, _⟩ := I.list h1
  have all : ∀ {xs : List V} {us : List Value}, Vals xs us → (∀ z ∈ xs, ∃ c zs, z = V.ref c ∧ SqL X.K H c zs) → ∀ u ∈ us, SeqAt.EqAt X.A.in1 s u .none false := by
    intro xs us r
    induction r with
    | nil => exact fun _ u m => absurd m (by simp)
    | @cons x u xs us rx _ ih =>
      intro h u' m
      rcases List.mem_cons.mp m with rfl | m
      · obtain ⟨c, zs, rfl, hc⟩ := h _ List.mem_cons_self
        cases rx
        obtain ⟨_, _, p2, _⟩ := I.list hc
        exact SeqAt.EqAt.list_none p2.isList (by show X.A.units + 1 < cLine; omega)
      · exact ih (fun z hz => h z (List.mem_cons_of_mem _ hz)) u' m
  refine SeqAt.in_listAt (fun _ => false) p1.isList (fun w hw => all r1 h2 w (by simpa using hw)) ⟨.bl _, H, I, rfl, ?_⟩
  rw [show us.toArray.any (fun _ => false) = false by simp]
  exact q
theorem od_inN {K : PySem.W.Frag} : OpD K cad (rNo K) kInN := by
  intro as st H x y v w d st' Q R r1 r2 e P
  obtain ⟨c, e1, e2⟩ := map_some e
  cases e2
  cases r1 with
  | non =>
    cases r2 with
    | @ref k b hb =>
      simp only [noO] at e1
      split at e1
      · rename_i ds e3
        split at e1
        · rename_i hall
          cases e1
          obtain ⟨xs, h1, rs⟩ := R.rdL e3 hb
          refine ⟨b, xs, rfl, rfl, h1, ?_, P.now R (.bl _)⟩
          have go : ∀ {ds : List D} {xs : List V}, VRs K as H ds xs → (∀ d ∈ ds, isL st d = true) → ∀ z ∈ xs, ∃ c zs, z = V.ref c ∧ SqL K H c zs := by
            intro ds
            induction ds with
            | nil =>
              intro xs r _ z hz
              cases r
              cases hz
            | cons d ds ih =>
              intro xs r h z hz
              cases r with
              | cons r t =>
                rcases List.mem_cons.mp hz with rfl | hz
                · have hd := h d List.mem_cons_self
                  cases r with
                  | @ref n c hc =>
                    obtain ⟨es, e4⟩ := Option.isSome_iff_exists.mp hd
                    obtain ⟨zs, hs, _⟩ := R.rdL e4 hc
                    exact ⟨c, zs, rfl, hs⟩
                  | _ => cases hd
                · exact ih t (fun d hd => h d (List.mem_cons_of_mem _ hd)) z hz
          exact go rs (fun d hd => List.all_eq_true.mp hall d hd)
        · cases e1
      · cases e1
    | _ => cases e1
  | _ => cases r2 <;> cases e1
theorem cm_inN (hu : X.A.units + 64 < cLine) : Cmp X cad .In kInN := ⟨⟨_, op_inN hu, od_inN⟩⟩
theorem bl_inN : IsBl kInN := by
  intro x y st d st' e
  obtain ⟨b, _, e2⟩ := map_some e
  cases e2
  exact ⟨_, rfl⟩
end
end MP

set_option maxRecDepth 100000
namespace MP
open PySem PySem.Spec L2
def Only (J : List Nat) (st st' : Sto) : Prop := ∀ n o, n ∉ J → st[n]? = some o → st'[n]? = some o
theorem get_grow {st g : Sto} {k : Nat} {o : Ob} (h : st[k]? = some o) : (st ++ g)[k]? = some o := by
  rw [List.getElem?_append_left (List.getElem?_eq_some_iff.mp h).1]
  exact h
theorem Only.refl {J : List Nat} {st : Sto} : Only J st st := fun _ _ _ h => h
theorem Only.grow {J : List Nat} {st g : Sto} : Only J st (st ++ g) := fun _ _ _ h => get_grow h
theorem Only.set {J : List Nat} {st : Sto} {j : Nat} {o : Ob} (hj : j ∈ J) : Only J st (st.set j o) := fun n o' hn h => by
  have hne : j ≠ n := fun e => hn (by rw [← e]; exact hj)
  rw [List.getElem?_set_ne hne]
  exact h
theorem Only.trans {J : List Nat} {st st' st'' : Sto} (a : Only J st st') (b : Only J st' st'') : Only J st st'' := fun n o hn h => b n o hn (a n o hn h)
theorem Only.more {J J' : List Nat} {st st' : Sto} (a : Only J st st') (h : ∀ x ∈ J, x ∈ J') : Only J' st st' := fun n o hn e => a n o (fun z => hn (h n z)) e
theorem loopC_G {chk : Sto → Prop} {m : MG} {t : MT} {f : ME} {ρ0 : Rho} {st : Sto} {b : D → Bool} {Q : D → D → Sto → Prop} (mono : ∀ d v s s', Q d v s → Only [st.length] s s' → Q d v s') (hk : ∀ acc g, chk (st ++ .lst acc :: g)) : ∀ (ds acc : List D) (g : Sto),
    (∀ d ∈ ds, ∀ acc g, ∃ ρ1 x, m d ρ0 = some ρ1 ∧ t ρ1 (st ++ .lst acc :: g) = some (b d, st ++ .lst acc :: (g ++ x)) ∧
      (b d = true → ∃ v y, f ρ1 (st ++ .lst acc :: (g ++ x)) = some (v, st ++ .lst acc :: (g ++ x ++ y)) ∧ Q d v (st ++ .lst acc :: (g ++ x ++ y)))) →
    acc.length + ds.length ≤ LIM → ∃ vs x, loopC chk m t f ρ0 st.length ds (st ++ .lst acc :: g) = some (st ++ .lst (acc ++ vs) :: (g ++ x)) ∧ Paired (fun d v => Q d v (st ++ .lst (acc ++ vs) :: (g ++ x))) (ds.filter b) vs
  | [], acc, g, _, _ => ⟨[], [], by
    unfold loopC
    rw [if_pos (hk acc g)]
    simp, .nil⟩
  | d :: r, acc, g, h, hl => by
    rw [List.length_cons] at hl
    obtain ⟨ρ1, x, e1, e2, h3⟩ := h d (.head _) acc g
    have hr := fun d' hd => h d' (List.mem_cons_of_mem _ hd)
    unfold loopC
    rw [if_pos (hk acc g), e1, Option.bind_some, e2, Option.bind_some]
    cases hb : b d with
    | false =>
      obtain ⟨vs, y, e3, p⟩ := loopC_G mono hk r acc (g ++ x) hr (by omega)
      refine ⟨vs, x ++ y, ?_, ?_⟩
      · simp only [Bool.false_eq_true, if_false]
        rw [e3, List.append_assoc]
      · rw [List.filter_cons_of_neg (by rw [hb]; exact Bool.false_ne_true)]
        rw [List.append_assoc] at p
        exact p
    | true =>
      obtain ⟨v, y, e3, hq⟩ := h3 hb
      obtain ⟨vs, z, e4, p⟩ := loopC_G mono hk r (acc ++ [v]) (g ++ x ++ y) hr (by rw [List.length_append, List.length_singleton]; omega)
      have ea : acc ++ [v] ++ vs = acc ++ v :: vs := by simp
      have eg : g ++ x ++ y ++ z = g ++ (x ++ y ++ z) := by simp
      rw [ea, eg] at e4 p
      refine ⟨v :: vs, x ++ y ++ z, ?_, ?_⟩
      · simp only [if_true]
        rw [e3, Option.bind_some]
        simp only [myL_end]
        rw [if_pos (by omega), set_end, e4]
      · rw [List.filter_cons_of_pos hb]
        refine .cons (mono _ _ _ _ hq fun n o hn hg => ?_) p
        have hne : st.length ≠ n := fun e => hn (by rw [e]; exact .head _)
        rw [← eg]
        have e5 : st ++ .lst (acc ++ v :: vs) :: (g ++ x ++ y ++ z) = (st ++ .lst acc :: (g ++ x ++ y)).set st.length (.lst (acc ++ v :: vs)) ++ z := by
          rw [set_end]
          simp
        rw [e5]
        refine get_grow ?_
        rw [List.getElem?_set_ne hne]
        exact hg
theorem eLc_G {chk : Sto → Prop} {fi : MI} {m : MG} {t : MT} {f : ME} {vs0 : List Nat} {ρ : Rho} {st0 st : Sto} {b : D → Bool} {ds : List D} {Q : D → D → Sto → Prop} (hi : fi ρ st0 = some ((ds, chk), st)) (mono : ∀ d v s s', Q d v s → Only [st.length] s s' → Q d v s') (hk : ∀ acc g, chk (st ++ .lst acc :: g))
    (h : ∀ d ∈ ds, ∀ acc g, ∃ ρ1 x, m d (wipeD ρ vs0) = some ρ1 ∧ t ρ1 (st ++ .lst acc :: g) = some (b d, st ++ .lst acc :: (g ++ x)) ∧
      (b d = true → ∃ v y, f ρ1 (st ++ .lst acc :: (g ++ x)) = some (v, st ++ .lst acc :: (g ++ x ++ y)) ∧ Q d v (st ++ .lst acc :: (g ++ x ++ y))))
    (hl : ds.length ≤ LIM) : ∃ vs x, eLc vs0 fi m t f ρ st0 = some (.ref st.length, st ++ .lst vs :: x) ∧ Paired (fun d v => Q d v (st ++ .lst vs :: x)) (ds.filter b) vs := by
  obtain ⟨vs, x, e, p⟩ := loopC_G mono hk ds [] [] h (by simpa using hl)
  refine ⟨vs, x, ?_, by simpa using p⟩
  unfold eLc
  rw [hi, Option.bind_some]
  show Option.map _ (loopC chk m t f (wipeD ρ vs0) st.length ds (st ++ [.lst []])) = _
  rw [e]
  rfl
theorem paired_map {φ : D → D} : ∀ {l vs : List D}, Paired (fun d v => v = φ d) l vs → vs = l.map φ
  | _, _, .nil => rfl
  | _, _, .cons r t => by rw [List.map_cons, ← paired_map t, r]
theorem eLc_V {chk : Sto → Prop} {fi : MI} {m : MG} {t : MT} {f : ME} {vs0 : List Nat} {ρ : Rho} {st0 st : Sto} {b : D → Bool} {φ : D → D} {ds : List D} (hi : fi ρ st0 = some ((ds, chk), st)) (hk : ∀ acc g, chk (st ++ .lst acc :: g))
    (h : ∀ d ∈ ds, ∀ acc g, ∃ ρ1 x, m d (wipeD ρ vs0) = some ρ1 ∧ t ρ1 (st ++ .lst acc :: g) = some (b d, st ++ .lst acc :: (g ++ x)) ∧
      (b d = true → ∃ y, f ρ1 (st ++ .lst acc :: (g ++ x)) = some (φ d, st ++ .lst acc :: (g ++ x ++ y))))
    (hl : ds.length ≤ LIM) : ∃ x, eLc vs0 fi m t f ρ st0 = some (.ref st.length, st ++ .lst ((ds.filter b).map φ) :: x) := by
  obtain ⟨vs, x, e, p⟩ := eLc_G (Q := fun d v _ => v = φ d) hi (fun _ _ _ _ q _ => q) hk (fun d hd acc g => by
    obtain ⟨ρ1, x, e1, e2, h3⟩ := h d hd acc g
    refine ⟨ρ1, x, e1, e2, fun hb => ?_⟩
    obtain ⟨y, e3⟩ := h3 hb
    exact ⟨φ d, y, e3, rfl⟩) hl
  exact ⟨x, by rw [e, paired_map p]⟩
theorem eLc_C {chk : Sto → Prop} {fi : MI} {m : MG} {t : MT} {f : ME} {vs0 : List Nat} {ρ : Rho} {st0 st : Sto} {b : D → Bool} {φ : D → D} {ds : List D} (hi : fi ρ st0 = some ((ds, chk), st)) (hk : ∀ acc, chk (st ++ [.lst acc]))
    (h : ∀ d ∈ ds, ∀ acc, ∃ ρ1, m d (wipeD ρ vs0) = some ρ1 ∧ t ρ1 (st ++ [.lst acc]) = some (b d, st ++ [.lst acc]) ∧ (b d = true → f ρ1 (st ++ [.lst acc]) = some (φ d, st ++ [.lst acc])))
    (hl : ds.length ≤ LIM) : eLc vs0 fi m t f ρ st0 = some (.ref st.length, st ++ [.lst ((ds.filter b).map φ)]) := by
  have go : ∀ (ds acc : List D), (∀ d ∈ ds, ∀ acc, ∃ ρ1, m d (wipeD ρ vs0) = some ρ1 ∧ t ρ1 (st ++ [.lst acc]) = some (b d, st ++ [.lst acc]) ∧ (b d = true → f ρ1 (st ++ [.lst acc]) = some (φ d, st ++ [.lst acc]))) → acc.length + ds.length ≤ LIM →
      loopC chk m t f (wipeD ρ vs0) st.length ds (st ++ [.lst acc]) = some (st ++ [.lst (acc ++ (ds.filter b).map φ)]) := fun ds => by
    induction ds with
    | nil =>
      intro acc _ _
      unfold loopC
      rw [if_pos (hk acc)]
      simp
    | cons d r ih =>
      intro acc h hl
      rw [List.length_cons] at hl
      obtain ⟨ρ1, e1, e2, h3⟩ := h d (.head _) acc
      have hr := fun d' hd => h d' (List.mem_cons_of_mem _ hd)
      unfold loopC
      rw [if_pos (hk acc), e1, Option.bind_some, e2, Option.bind_some]
      cases hb : b d with
      | false =>
        simp only [Bool.false_eq_true, if_false]
        rw [ih acc hr (by omega), List.filter_cons_of_neg (by rw [hb]; exact Bool.false_ne_true)]
      | true =>
        simp only [if_true]
        rw [h3 hb, Option.bind_some]
        simp only [myL_end]
        rw [if_pos (by omega), set_end, ih (acc ++ [φ d]) hr (by rw [List.length_append, List.length_singleton]; omega), List.filter_cons_of_pos hb]
        simp
  unfold eLc
  rw [hi, Option.bind_some]
  show Option.map _ (loopC chk m t f (wipeD ρ vs0) st.length ds (st ++ [.lst []])) = _
  rw [go ds [] h (by simpa using hl)]
  rfl
theorem loopW_stop {t : MT} {u : MS} {n : Nat} {ρ : Rho} {st st' : Sto} (h : t ρ st = some (false, st')) : loopW t u (n + 1) ρ st = some (.nx, ρ, st') := by
  simp only [loopW, h, Option.bind_some, Bool.false_eq_true, if_false]
theorem loopW_go {t : MT} {u : MS} {n : Nat} {ρ ρ2 : Rho} {st st' st'' : Sto} (h : t ρ st = some (true, st')) (h2 : u ρ st' = some (.nx, ρ2, st'')) : loopW t u (n + 1) ρ st = loopW t u n ρ2 st'' := by
  simp only [loopW, h, Option.bind_some, if_true, h2]
theorem sWhile_of {t : MT} {u : MS} {n : Nat} {ρ : Rho} {st : Sto} {r : RS} (hn : n ≤ FUEL) (h : ∀ k, loopW t u (n + k) ρ st = r) : sWhile t u ρ st = r := by
  obtain ⟨k, e⟩ := Nat.le.dest hn
  have := h k
  rw [e] at this
  exact this
section
variable {st : Sto} {ρ : Rho} {k n c : Nat} {d x y : D} {ds : List D} {f : ME} {g : MA} {fs : List (Str × D)}
theorem minF_at {i j : Int} : minF false [.int i, .int j] st = some (.int (if j < i then j else i), st) := rfl
theorem lenSetO_at {ks : List D} (h : (keysT ks).isSome = true) : lenSetO (.tup [.tup ks]) st = some (.int 1, st) := by
  unfold lenSetO
  simp only [h, if_true]
theorem dictF_at {kvs : List (Key × D)} (h : myD st k = some kvs) : dictF [.ref k] st = some (.ref st.length, st ++ [.dic kvs]) := by
  unfold dictF
  simp only [rdK_my h, Option.map_some]
theorem eMth_at {m : Str} {tab : List (Nat × FN)} {F : FN} {st' : Sto} (h : f ρ st = some (.ref k, st')) (h2 : st'[k]? = some (.ins c fs)) (h3 : fs.lookup m = none) (h4 : tab.lookup c = some F) : eMth m tab f g ρ st = (g ρ st').bind fun q => F (.ref k :: q.1) q.2 := by
  unfold eMth
  rw [h, Option.bind_some]
  simp only [h2, h3, h4]
theorem opAddF_at {l m : List D} (h1 : l ≠ []) (h2 : m ≠ []) (h3 : l.length + m.length ≤ LIM) : opAddF (.tup l) (.tup m) st = some (.ref st.length, st ++ [.ft (l ++ m)]) := by
  unfold opAddF
  simp only [h1, h2, h3, ne_eq, not_false_eq_true, and_self, if_true]
theorem opAdd_tup {l m : List D} (h1 : l ≠ []) (h3 : l.length + m.length ≤ LIM) : opAdd (.tup l) (.tup m) st = some (.tup (l ++ m), st) := by
  unfold opAdd
  simp only [h1, h3, ne_eq, not_false_eq_true, and_self, if_true]
theorem opAdd_lst {l m : List D} (h1 : myL st k = some l) (h2 : myL st n = some m) (h3 : l.length + m.length ≤ LIM) : opAdd (.ref k) (.ref n) st = some (.ref st.length, st ++ [.lst (l ++ m)]) := by
  unfold opAdd
  simp only [h1, h2, h3, if_true]
theorem slO_lst {lo hi : Option Int} (h : rdL st k = some ds) : slO (.ref k) lo hi st = some (.ref st.length, st ++ [.lst (cutG ds lo hi)]) := by
  unfold slO
  simp only [h, Option.map_some]
end
end MP

set_option maxRecDepth 100000
namespace MP
open PySem PySem.Spec PyProof.Rows L2
section
variable {X : Cx} {cad : Cad} {e a b c tg : Expr} {f h : ME} {g : MA} {pos p apos cpos : Pos} {es : List Expr}
def pop0M : D → FN := fun x ds st => match x, ds with
  | .ref k, [.int 0] => match myL st k with
    | some (d :: xs) => some (d, st.set k (.lst xs))
    | _ => none
  | _, _ => none
theorem md_pop0 {K : PySem.W.Frag} : MtD K cad rPopAt pop0M := by
  intro as st H x v ds vs d st' Q R r1 r2 e P
  cases r1 with
  | @ref n a ha =>
    match ds, r2, e with
    | [.int 0], .cons (.int _) .nil, e =>
      simp only [pop0M] at e
      split at e
      · rename_i y xs e1
        cases e
        obtain ⟨ws, q, rs⟩ := R.myL e1 ha
        cases rs with
        | @cons _ _ w ws' rw' rs' =>
          refine ⟨a, w :: ws', 0, 0, w, rfl, rfl, q, by decide, by decide, ?_, rfl, P.set R e1 ha rs' rw'⟩
          unfold seqIndex?
          rw [List.length_cons]
          simp
      · cases e
  | _ => cases e
theorem ie_pop0 (ha : IE X cad a f) (hes : IA X cad (e :: es) g) (hbase : attributeBase a "pop" X.env (eval a X.env) = eval a X.env := by rfl)
    (hfew : ((backTo cpos (starEach (e :: es) X.env)).all (fun x => !x.1) && (backToKw cpos (keywordEach [] X.env)).all (fun x => x.1.isSome)
      && decide ((e :: es).length + ([] : List Keyword).length + (if ([] : List Keyword).isEmpty then 0 else 1) < 30)) = true := by rfl)
    (hline : (apos.endLine == cpos.line) = true := by rfl) (hs : starEach (e :: es) X.env = (false, eval e X.env) :: starEach es X.env := by rfl) (hplain : (backTo cpos (starEach es X.env)).any (·.1) = false := by rfl) :
    IE X cad (.Call (.Attribute a "pop" apos) (e :: es) [] cpos) (eBM isL pop0M f g) :=
  ie_bm (fun _ _ _ _ _ R r e => isL_ty R r e) md_pop0 PySem.F.plainAttrs_list PySem.F.slot_list_pop PySem.F.type_list_pop mt_popAt ha hes hbase hfew hline hs hplain
section
variable {prog : Program} {w : World} {A : Around} {E : Value → Shared → Prop} {s : Shared}
theorem getItem_pair_back {t sl : Addr} {u v : Value} {vs : Value} {Q : Value → Shared → Prop} (ht : IsTup s.heap t #[u, v]) (hs : s.heap.IsSliceOf sl .none .none vs) (ps : IsPart vs (some (-1)))
    (h : Q (.ref s.heap.objs.size) { s with heap := s.heap.push { cls := .type "tuple", data := .seq #[v, u] } }) : wpAny (model prog w) A (getItem (.ref t) (.ref sl)) Q E s := by
  obtain ⟨os, hos, hcs, hds⟩ := id hs
  have hTs : s.TypeIs (.ref sl) "slice" := ⟨os, hos, hcs⟩
  unfold getItem
  try with_reducible refine wpAny_holding ?_
  first | refine wpAny_bind (wpAny_pure ?_) | skip
  refine wpAny_bind (wpAny_sequenceKey ht.typeIs (by decide) ?_)
  refine wpAny_bind (wpAny_callSpecial?_slot (name := Str.ofString "__getitem__") ht.typeIs PyProof.Rows.slot_tuple_getitem
    (wpAny_call_entry PyProof.Rows.slot_tuple_getitem ht.typeIs entry_tuple_getitem ?_ (args_tuple_getitem _ _)))
  show wpAny _ _ (Builtin.Tuple.tupleItemsOf (.ref t) >>= _) _ _ s
  refine wpAny_bind (tupleItemsOf_ ht ?_)
  refine wpAny_bind (wpAny_typeOf hTs ?_)
  rw [if_pos (by decide)]
  have ap : ∀ {A : Around} {R : Int × Int × Nat → Shared → Prop}, R (1, -1, 2) s → wpAny (model prog w) A (Builtin.Slice.sliceApplied (.ref sl) (pure ((#[u, v] : Array Value).size : Int))) R E s := fun {A} {R} hR => by
    unfold Builtin.Slice.sliceApplied Builtin.Slice.sliceFields
    refine wpAny_bind (wpAny_bind (wpAny_field hos hds (x := .none) rfl (wpAny_bind (wpAny_field hos hds (x := .none) rfl (wpAny_bind (wpAny_field hos hds (x := vs) rfl (wpAny_pure ?_)))))))
    refine wpAny_bind (HT.slicePart_ ps ?_)
    show wpAny _ _ (if ((-1 : Int) == 0) = true then _ else _) _ _ s
    rw [if_neg (by decide)]
    refine wpAny_bind (HT.slicePart_ .none (wpAny_bind (HT.slicePart_ .none (wpAny_bind (wpAny_pure ?_)))))
    show wpAny _ _ (match Builtin.Slice.sliceAdjust none none (-1) 2 with | (lo, hi) => pure (lo, (-1 : Int), Builtin.Slice.slicePlaces lo hi (-1))) _ _ s
    rw [show Builtin.Slice.sliceAdjust none none (-1) 2 = (1, -1) by decide]
    show wpAny _ _ (pure ((1 : Int), (-1 : Int), Builtin.Slice.slicePlaces 1 (-1) (-1))) _ _ s
    rw [show Builtin.Slice.slicePlaces 1 (-1) (-1) = 2 by decide]
    exact wpAny_pure hR
  refine wpAny_bind (ap ?_)
  have hsz : sizeOk (.seq #[v, u]) := by
    show 2 ≤ sizeLine
    rw [sizeLine_eq]
    omega
  show wpAny _ _ (if ((1 : Int) == 0 && (-1 : Int) == 1 && (2 : Nat) == (#[u, v] : Array Value).size) = true then _ else _) _ _ s
  rw [if_neg (by simp)]
  first
    | exact wpAny_bind (m := Builtin.Tuple.tupleExact _) (wpAny_newObj_type (wpAny_pure ⟨_, rfl, wpAny_pure h⟩) hsz)
    | exact wpAny_bind (m := Builtin.Tuple.tupleExact _) (wpAny_newObj_type (wpAny_bind (wpAny_pure (wpAny_pure ⟨_, rfl, wpAny_pure h⟩))) hsz)
    | exact wpAny_bind (wpAny_bind (m := Builtin.Tuple.tupleExact _) (wpAny_newObj_type (wpAny_pure (wpAny_pure ⟨_, rfl, wpAny_pure h⟩)) hsz))
    | exact wpAny_bind (wpAny_bind (m := Builtin.Tuple.tupleExact _) (wpAny_newObj_type (wpAny_pure ⟨_, rfl, wpAny_pure h⟩) hsz))
end
def tBack2 (K : PySem.W.Frag) (te : TE) : TE := fun σ H Q => te σ H fun x H1 => ∃ a x1 x2, x = .ref a ∧ SqT K H1 a [x1, x2] ∧ ∀ p, H1 p = none → Q (.ref p) (upd H1 p (.tup [x2, x1]))
theorem pe_back2 {te : TE} {k : Nat} {p1 p2 p3 : Pos} (he : PE X e te) : PE X (.Subscript e (.Slice none none (some (.UnaryOp .USub (.Constant (.int 1) k p1) p2)) p3) pos) (tBack2 X.K te) := by
  refine ⟨fun pins s σ H Q I h => ?_⟩
  refine Subscript_ (thn (he.run pins s σ H _ I h) fun v s1 ⟨x, H1, I1, r1, q1⟩ => ?_)
  obtain ⟨a, y1, y2, ex, hx, q⟩ := q1
  subst ex
  cases r1
  have hst : PO X (some (.UnaryOp .USub (.Constant (.int 1) k p1) p2)) (tPart (tUn (rU fun i => .int (-i)) (tC (.int 1)))) := po_some (pe_un un_neg pe_int)
  refine wpAny_Slice (thn (po_none.run pins s1 σ H1 (fun o H2 => o = none ∧ H2 = H1) I1 ⟨rfl, rfl⟩) fun vl s2 ⟨l, H2, I2, pl, el, e2⟩ => ?_)
  subst el e2
  refine thn (po_none.run pins s2 σ H2 (fun o H3 => o = none ∧ H3 = H2) I2 ⟨rfl, rfl⟩) fun vu s3 ⟨u, H3, I3, pu, eu, e3⟩ => ?_
  subst eu e3
  refine thn (hst.run pins s3 σ H3 (fun o H4 => o = some (-1) ∧ H4 = H3) I3 ⟨1, rfl, -1, rfl, rfl, rfl⟩) fun vs s4 ⟨o, H4, I4, ps, eo, e4⟩ => ?_
  subst eo e4
  cases pl
  cases pu
  have I5 : Inv X pins σ H4 { s4 with heap := s4.heap.push { cls := .type "slice", data := .fields #[.none, .none, vs] } } := I4.kept (t' := s4.toks) fun b ob q => Heap.get?_push_of_some _ q
  obtain ⟨its, r, ht, hz⟩ := I5.tuple hx
  cases r with
  | @cons _ _ u1 _ r1 r =>
    cases r with
    | @cons _ _ u2 _ r2 r =>
      cases r
      show wpAny (model X.prog X.w) X.A (subscriptTail e (.Slice none none (some (.UnaryOp .USub (.Constant (.int 1) k p1) p2)) p3) (.ref a) (.ref s4.heap.objs.size)) (EP X pins σ Q) X.xe { s4 with heap := s4.heap.push { cls := .type "slice", data := .fields #[.none, .none, vs] } }
      refine tail_any (ops := [.ref a, .ref s4.heap.objs.size]) ht.typeIs (PyProof.Rows.slot_tuple_getitem.lookup) ?_ (by with_unfolding_all rfl)
      refine getItem_pair_back ht (Heap.IsSliceOf.new _ .none .none vs) ps ?_
      refine ⟨.ref _, _, I5.laid (t' := s4.toks) (o := .tup [y2, y1]) (fun b ob q => Heap.get?_push_of_some _ q) (Nat.le_refl _) ?_, rfl, q _ (I5.hok.fresh (Nat.le_refl _))⟩
      exact ⟨by show 2 ≤ sizeLine; rw [sizeLine_eq]; omega, _, .cons r2 (.cons r1 .nil), IsTup.new _ _⟩
def eBack (f : ME) : ME := fun ρ st => (f ρ st).bind fun p => match p.1 with
  | .tup [x, y] => some (.tup [y, x], p.2)
  | _ => none
theorem ie_back {k : Nat} {p1 p2 p3 : Pos} (ha : IE X cad e f) : IE X cad (.Subscript e (.Slice none none (some (.UnaryOp .USub (.Constant (.int 1) k p1) p2)) p3) pos) (eBack f) := by
  refine pe_weak (pe_back2 ha) fun σ H Q => ?_
  rintro ⟨as, st, ρ, d, st', R, E, w, P⟩
  obtain ⟨⟨x, st1⟩, e1, w⟩ := bind_some w
  refine tI_run R E e1 fun as1 H1 v x1 R1 E1 r1 => ?_
  simp only at w
  split at w
  · rename_i y z
    cases w
    cases r1 with
    | @tup b xs ds hs rs =>
      cases rs with
      | @cons _ _ v1 _ q1 rs =>
        cases rs with
        | @cons _ _ v2 _ q2 rs =>
          cases rs
          exact ⟨b, v1, v2, rfl, hs, fun p hp => (P.ext x1).tup R1 (.cons q2 (.cons q1 .nil)) hp⟩
  · cases w
def eLRg (f : ME) : ME := fun ρ st => (f ρ st).bind fun p => match p.1 with
  | .int n => if 0 ≤ n ∧ n ≤ 1000000 then some (.ref p.2.length, p.2 ++ [.lst (rngD 0 n.toNat)]) else none
  | _ => none
theorem rng_vrs {K : PySem.W.Frag} {as : List Addr} {H : Hp} (n : Int) : VRs K as H (rngD 0 n.toNat) (rgV 0 n) := by
  have h := VRs.ints (K := K) (as := as) (H := H) ((List.range n.toNat).map fun i => (0 : Int) + (i : Nat))
  rw [List.map_map, List.map_map] at h
  unfold rngD rgV
  rw [Int.sub_zero]
  exact h
theorem ie_lrng {p2 pos2 : Pos} (hc : X.calm = true) (hg1 : Gl X "list") (hm1 : X.mg "list" = none) (hg2 : Gl X "range") (hm2 : X.mg "range" = none) (ha : IE X cad a f) (na : starEach [a] X.env = (false, eval a X.env) :: starEach [] X.env := by rfl)
    (nb : starEach [.Call (.Name "range" p2) [a] [] pos2] X.env = (false, eval (.Call (.Name "range" p2) [a] [] pos2) X.env) :: starEach [] X.env := by rfl) :
    IE X cad (.Call (.Name "list" p) [.Call (.Name "range" p2) [a] [] pos2] [] pos) (eLRg f) := by
  refine pe_weak (pe_listRg hc hg1 hm1 (prg_1 hg2 hm2 ha na) nb) fun σ H Q => ?_
  rintro ⟨as, st, ρ, d, st', R, E, w, P⟩
  obtain ⟨⟨x, st1⟩, e1, w⟩ := bind_some w
  refine tI_run R E e1 fun as1 H1 v x1 R1 E1 r1 => ?_
  simp only at w
  split at w
  · rename_i n
    split at w
    · rename_i hn
      cases w
      cases r1
      exact ⟨n, rfl, RgOk.of_le (by omega) (by omega) (by omega) (by omega), fun q hq => P _ _ _ (x1.trans (Ext.fresh1 hq)) (R1.new hq ⟨_, upd_same, (rng_vrs n).mono (Ext.fresh1 hq)⟩) (.ref (by rw [← R1.len]; simp))⟩
    · cases w
  · cases w
def opAddT : O2 := fun x y st => match x, y with
  | .tup l, .tup m => if l.length + m.length ≤ LIM then some (.tup (l ++ m), st) else none
  | _, _ => none
theorem od_addT {K : PySem.W.Frag} : OpD K cad (rCatA K) opAddT := by
  intro as st H x y v w d st' Q R r1 r2 e P
  cases r1 with
  | @tup a xs ds hs rs =>
    cases r2 with
    | @tup b ys es hs2 rs2 =>
      simp only [opAddT] at e
      split at e
      · cases e
        rename_i hl
        refine ⟨a, b, xs, ys, rfl, rfl, hs, hs2, ?_, fun hx => ?_, fun hx hy => ?_, fun _ _ p hp => ?_⟩
        · rw [← rs.length, ← rs2.length]
          exact lim_ok hl
        · subst hx
          cases rs
          exact P.now R (.tup hs2 rs2)
        · subst hy
          cases rs2
          rw [List.append_nil] at P
          exact P.now R (.tup hs rs)
        · exact P.tup R (rs.append rs2) hp
      · cases e
    | _ => cases e
  | _ => cases e
theorem ie_addT (ha : IE X cad a f) (hb : IE X cad b h) : IE X cad (.BinOp a .Add b pos) (eBin opAddT f h) := ie_bin op_catA od_addT ha hb
def slT (x : D) (lo hi : Option Int) (st : Sto) : Option (D × Sto) := match x with
  | .tup ds => some (.tup (cutG ds lo hi), st)
  | _ => none
def eSlT (f : ME) (p q : MO) : ME := fun ρ st => (f ρ st).bind fun x => (p ρ x.2).bind fun y => (q ρ y.2).bind fun z => slT x.1 y.1 z.1 z.2
theorem ie_slT {lo hi : Option Expr} {p q : MO} {p2 : Pos} (ha : IE X cad a f) (hl : IO' X cad lo p) (hh : IO' X cad hi q) : IE X cad (.Subscript a (.Slice lo hi none p2) pos) (eSlT f p q) := by
  refine pe_weak (pe_slice sl_tupA ha hl hh) fun σ H Q => ?_
  rintro ⟨as, st, ρ, d, st', R, E, w, P⟩
  obtain ⟨⟨x, st1⟩, e1, w⟩ := bind_some w
  obtain ⟨⟨y, st2⟩, e2, w⟩ := bind_some w
  obtain ⟨⟨z, st3⟩, e3, w⟩ := bind_some w
  refine tI_run R E e1 fun as1 H1 v x1 R1 E1 r1 => ⟨as1, st1, ρ, y, st2, R1, E1, e2, fun as2 H2 x2 R2 => ⟨as2, st2, ρ, z, st3, R2, E1.mono x2, e3, fun as3 H3 x3 R3 => ?_⟩⟩
  have r3 := r1.mono (x2.trans x3)
  have P3 := P.ext (x1.trans (x2.trans x3))
  cases r3 with
  | @tup b xs ds hs rs =>
    cases w
    refine ⟨b, xs, rfl, hs, fun hw => ?_, fun _ p hp => P3.tup R3 (rs.cut y z) hp⟩
    have e4 : cutG ds y z = ds := by
      unfold cutG
      rw [rs.length, hw.1, hw.2, List.drop_zero, Nat.sub_zero, ← rs.length, List.take_length]
    rw [e4] at P3
    exact P3.now R3 (.tup hs rs)
  | _ => cases w
theorem call_strB : CallR X (.type "str") (fun xs H Q => ∃ k, xs = [.bl k] ∧ Q (.str (if k then "True" else "False")) H) := by
  intro pins s σ H xs us Q I r h
  obtain ⟨k, rfl, q⟩ := h
  obtain ⟨u, rfl, r1⟩ := r.one
  cases r1
  exact PySem.P.str_of_bool ⟨.str _, H, I.tok _, ⟨_, rfl⟩, q⟩
theorem call_strS : CallR X (.type "str") (fun xs H Q => ∃ a, xs = [.str a] ∧ Q (.str a) H) := by
  intro pins s σ H xs us Q I r h
  obtain ⟨a, rfl, q⟩ := h
  obtain ⟨u, rfl, t, rfl⟩ := r.one
  exact PySem.P.str_of_str ⟨.str a, H, I, ⟨t, rfl⟩, q⟩
def strAO (x : D) (st : Sto) : Option D := match x with
  | .str l => some (.str l)
  | .bl true => some (.str [84, 114, 117, 101])
  | .bl false => some (.str [70, 97, 108, 115, 101])
  | .int i => strO (.int i) st
  | _ => none
theorem cd_strA {K : PySem.W.Frag} : CallD K cad (fun xs H Q => (∃ i, xs = [V.int i] ∧ i.natAbs.log2 < 1920 ∧ Q (.str (toString i)) H) ∨ (∃ k, xs = [V.bl k] ∧ Q (.str (if k then "True" else "False")) H) ∨ ∃ a, xs = [V.str a] ∧ Q (.str a) H) (o1 strAO) := cd1 fun as st H x v d Q R r e P => by
  cases r with
  | int i =>
    simp only [strAO, strO] at e
    split at e
    · rename_i hz
      cases e
      refine .inl ⟨i, rfl, hz, ?_⟩
      have h1 : (Str.ofString (toString i)) = mkS (sgnI i) := by
        rw [← mkS_of (Str.ofString (toString i))]
        congr 1
        exact TL.tl_ofString _
      show Q (.str (Str.ofString (toString i))) H
      rw [h1]
      exact P.now R (.str (okS_chars _))
    · cases e
  | bl k =>
    cases k with
    | true =>
      cases e
      exact .inr (.inl ⟨true, rfl, P.now R (.str (by decide))⟩)
    | false =>
      cases e
      exact .inr (.inl ⟨false, rfl, P.now R (.str (by decide))⟩)
  | @str l hl =>
    cases e
    exact .inr (.inr ⟨_, rfl, P.now R (.str hl)⟩)
  | _ => cases e
theorem ie_toStrA (hg : Gl X "str") (hm : X.mg "str" = none) (ha : IA X cad (e :: es) g) (he : starEach (e :: es) X.env = (false, eval e X.env) :: starEach es X.env := by rfl) (hpl : (backTo pos (starEach es X.env)).any (·.1) = false := by rfl) :
    IE X cad (.Call (.Name "str" p) (e :: es) [] pos) (eCall (o1 strAO) g) := ie_callTy cd_strA (call_str_int.or (call_strB.or call_strS)) hg hm (by decide +kernel) ha (by decide) (by decide) he hpl
variable {ρ : Rho} {st : Sto}
def kBack (r : Option (D × Sto)) : Option (D × Sto) := r.bind fun p => match p.1 with
  | .tup [x, y] => some (.tup [y, x], p.2)
  | _ => none
theorem eBack_at : eBack f ρ st = kBack (f ρ st) := rfl
theorem kBack_some {x y : D} : kBack (some (.tup [x, y], st)) = some (.tup [y, x], st) := rfl
def kLRg (r : Option (D × Sto)) : Option (D × Sto) := r.bind fun p => match p.1 with
  | .int n => if 0 ≤ n ∧ n ≤ 1000000 then some (.ref p.2.length, p.2 ++ [.lst (rngD 0 n.toNat)]) else none
  | _ => none
theorem eLRg_at : eLRg f ρ st = kLRg (f ρ st) := rfl
theorem kLRg_some {n : Nat} (h : n ≤ 1000000) : kLRg (some (.int (n : Int), st)) = some (.ref st.length, st ++ [.lst (rngD 0 n)]) := by
  unfold kLRg
  rw [Option.bind_some]
  simp only
  rw [if_pos (by omega), Int.toNat_natCast]
theorem opAddT_at {l m : List D} (h : l.length + m.length ≤ LIM) : opAddT (.tup l) (.tup m) st = some (.tup (l ++ m), st) := by
  unfold opAddT
  simp only [h, if_true]
def ks4T (q : MO) (ρ : Rho) (x : D) (y : Option Int) (r : Option (Option Int × Sto)) : Option (D × Sto) := r.bind fun z => slT x y z.1 z.2
def ks3T (q : MO) (ρ : Rho) (x : D) (r : Option (Option Int × Sto)) : Option (D × Sto) := r.bind fun y => ks4T q ρ x y.1 (q ρ y.2)
def ks2T (p q : MO) (ρ : Rho) (r : Option (D × Sto)) : Option (D × Sto) := r.bind fun x => ks3T q ρ x.1 (p ρ x.2)
theorem eSlT_at {p q : MO} : eSlT f p q ρ st = ks2T p q ρ (f ρ st) := rfl
theorem ks2T_some {p q : MO} {x : D} : ks2T p q ρ (some (x, st)) = ks3T q ρ x (p ρ st) := rfl
theorem ks3T_some {q : MO} {x : D} {y : Option Int} : ks3T q ρ x (some (y, st)) = ks4T q ρ x y (q ρ st) := rfl
theorem ks4T_some {q : MO} {ds : List D} {y z : Option Int} : ks4T q ρ (.tup ds) y (some (z, st)) = some (.tup (cutG ds y z), st) := rfl
theorem pop0M_at {k : Nat} {d : D} {xs : List D} (h : myL st k = some (d :: xs)) : pop0M (.ref k) [.int 0] st = some (d, st.set k (.lst xs)) := by
  simp only [pop0M, h]
end
end MP

set_option maxRecDepth 100000
namespace MP
open PySem PySem.Spec PyProof.Rows L2
structure FnG (P : Program) (w : World) (K : PySem.W.Frag) (mg : Str → Option Value) (bs : Heap) (k : Nat) (fa : Addr) (fd : FuncData) (ps : List Str) (sp : Sp) : Prop where
  ln : ∀ vs H Q E, sp vs H Q E → vs.length = ps.length
  go : ∀ (B : Around) (out : List Env) (t : Shared) (H : Hp) (ar : Args) (us : List Value) (vs : List V) (Q : VK) (E : XK), B.guards = some [] → Room k B → Env0 P w K mg bs B out t H → BindsTo t fd ar (ps.zip us) → Vals vs us → sp vs H Q E →
    codeAny (model P w) B (.call (.ref fa) ar) (CR CX0 out P w H t Q E) t
section
variable {P : Program} {w : World} {K : PySem.W.Frag} {mg : Str → Option Value} {bs : Heap} {cad : Cad}
theorem fnG_of {x qual : Str} {st : Stmt} {fa : Addr} {fd : FuncData} {N ps : List Str} {k : Nat} {sp : Sp} (F : Fun K x qual st fa fd) (S : FnScope N ps (defScope st)) (ln : ∀ vs H Q E, sp vs H Q E → vs.length = ps.length)
    (hb : ∀ (cv : Value) (B : Around) (out : List Env) (t : Shared) (H : Hp) (vs : List V) (Q : VK) (E : XK), B.guards = some [] → Room k (B.deeper (envOfC qual (defScope st) t.heap.objs.size fa cv)) → sp vs H Q E →
      ∃ tr, PSs (cxOf CX0 P w K mg bs N qual (defScope st) fa cv B out t H E).nox (defBody st) tr ∧ tr { nx := fun _ H' => Q .non H', rt := Q } (start N vs) H) : FnG P w K mg bs (k + 1) fa fd ps sp := by
  obtain ⟨oc, od, kV, doc, pm, an, cv, ct, osl, rfl, lk, hcd⟩ := F.ex
  refine ⟨ln, fun B out t H ar us vs Q E hg hr he hbt hv hs => ?_⟩
  have n1 := ln _ _ _ _ hs
  have KX : K.In t.heap := he.mod.kin.keeps fun b o z => (he.bs b o z).1
  have nl : t.heap.NoLimit := he.mod.nolimit.keeps fun b o z => (he.bs b o z).1
  refine codeAny_call_function hr.depth (KX _ _ lk) rfl S.co S.gen rfl (PySem.W.codeRec_of KX hcd) (hbt _ _ _ _ ?_)
  refine wpAny_newFunctionEnv_cells S.kind (fun y hy => ?_) fun env e1 t1 x1 => ?_
  · obtain ⟨n, v⟩ := y
    rcases S.par n (List.of_mem_zip hy).1 with q | q
    · exact Or.inl q
    · exact Or.inr ⟨q, PySem.W.cellsFrom_some _ _ _ (Or.inl q)⟩
  · subst e1
    refine ⟨nl.keeps x1.toInCall.keep, codeAny_func ?_⟩
    obtain ⟨tr, h1, h2⟩ := hb cv B out t H vs Q E hg (hr.deeper _) hs
    have J0 : Inv (cxOf CX0 P w K mg bs N qual (defScope st) fa cv B out t H E) [] (start N vs) H t1 := inv_start S hr.hd he n1 hv x1
    refine wpAny_mono (h1.nox.run [] t1 (start N vs) H _ J0 h2) (fun r t2 z => ?_) fun e t2 z => z
    cases r with
    | next =>
      obtain ⟨σ2, H2, J, q⟩ := z
      exact ⟨V.non, H2, J.os, J.bare, J.base, J.hok, rfl, q⟩
    | ret u =>
      obtain ⟨v, σ2, H2, J, rv, q⟩ := z
      exact ⟨v, H2, J.os, J.bare, J.base, J.hok, rv, q⟩
    | brk =>
      obtain ⟨_, _, _, q⟩ := z
      exact q.elim
    | cont =>
      obtain ⟨_, _, _, q⟩ := z
      exact q.elim
theorem FnG.imp {k : Nat} {fa : Addr} {fd : FuncData} {ps : List Str} {sp sp' : Sp} (F : FnG P w K mg bs k fa fd ps sp) (h : ∀ vs H Q E, sp' vs H Q E → sp vs H Q E) : FnG P w K mg bs k fa fd ps sp' :=
  ⟨fun vs H Q E q => F.ln vs H Q E (h _ _ _ _ q), fun B out t H ar us vs Q E hg hr he hb hv q => F.go B out t H ar us vs Q E hg hr he hb hv (h _ _ _ _ q)⟩
theorem FnG.of {k : Nat} {fa : Addr} {fd : FuncData} {ps : List Str} {sp : Sp} (F : FnOk P w K mg bs CX0 k fa fd ps sp) : FnG P w K mg bs k fa fd ps sp :=
  ⟨F.len, fun B out t H ar us vs Q E _ hr he hb hv q => F.run B out t H ar us vs Q E hr he hb hv q⟩
end
section
variable {X : Cx} {k : Nat} {fa : Addr} {fd : FuncData} {ps : List Str} {sp : Sp} {dvs : List V} {ds : List Value} {E : XK} {x : Str} {p pos : Pos} {e : Expr} {es : List Expr} {t : TA}
theorem runG {pins : List (Addr × Obj)} {σ : L2.St} {H : Hp} {s : Shared} {Q : VK} {us : List Value} {vs : List V} (F : FnG X.prog X.w X.K X.mg X.base k fa fd ps sp) (hg : X.A.guards = some []) (hr : Room k X.A) (hb : Binds X.K fd ps ds) (hd : Vals dvs ds) (hx : Passes CX0 X E)
    (I : Inv X pins σ H s) (r : Vals vs us) (h : sp (vs ++ dvs) H Q E) : wpAny (model X.prog X.w) X.A (call (.ref fa) us) (EP X pins σ Q) X.xe s := by
  have rr : Vals (vs ++ dvs) (us ++ ds) := r.append hd
  have n1 : (us ++ ds).length = ps.length := by
    rw [← rr.length]
    exact F.ln _ _ _ _ h
  have run := F.go X.A X.stack s H ⟨us, []⟩ (us ++ ds) (vs ++ dvs) Q E hg hr I.env0 (hb s us I.kIn n1) rr h
  refine wpAny_call (codeAny_mono run fun a s2 z => ?_)
  match a, z with
  | .error er, z => exact hx pins σ H s er s2 I z
  | .ok (.ret u), z => exact I.after z
  | .ok .next, z => exact False.elim z
  | .ok .brk, z => exact False.elim z
  | .ok .cont, z => exact False.elim z
theorem pe_callG (F : FnG X.prog X.w X.K X.mg X.base k fa fd ps sp) (hG : X.A.guards = some []) (hr : Room k X.A) (hg : Gl X x) (hm : X.mg x = some (.ref fa)) (hk : PySem.W.keepIn X.K (.ref fa) = true) (hb : Binds X.K fd ps ds) (hd : Vals dvs ds) (hx : Passes CX0 X E)
    (ha : PA X (e :: es) t) (hdb : (x == ("__debug__" : Str)) = false) (he : starEach (e :: es) X.env = (false, eval e X.env) :: starEach es X.env) (hpl : (backTo pos (starEach es X.env)).any (·.1) = false) :
    PE X (.Call (.Name x p) (e :: es) [] pos) (tCall sp dvs E t) := ⟨fun pins s σ H Q I h => wpAny_Call_Name_kw (ld_glob I hg hm
      (PySem.W.callWith_K (h₀ := X.base) I.ok.mod.kin hk (thn (ha.run pos pins s σ H _ I h) fun us s1 ⟨vs, H1, I1, r, q⟩ => ⟨I1.kIn, runG F hG hr hb hd hx I1 r q⟩) he hpl) hdb)⟩
end
structure FnFactG (P : Program) (w : World) (K : PySem.W.Frag) (mg : Str → Option Value) (bs : Heap) (cad : Cad) (x : Str) (k : Nat) (F : FN) : Prop where
  ex : ∃ (f : Addr) (fd : FuncData) (ps : List Str), FnG P w K mg bs k f fd ps (spOf K cad F) ∧ mg x = some (.ref f) ∧ PySem.W.keepIn K (.ref f) = true ∧ Binds K fd ps []
section
variable {P : Program} {w : World} {K : PySem.W.Frag} {mg : Str → Option Value} {bs : Heap} {cad : Cad}
theorem fn_okG {x qual : Str} {st : Stmt} {fa : Addr} {fd : FuncData} {N ps : List Str} {k : Nat} {u : MS} (F : Fun K x qual st fa fd) (S : FnScope N ps (defScope st))
    (hbody : ∀ (cdv : Value) (A : Around) (outer : List Env) (s : Shared) (H : Hp) (E : XK), A.guards = some [] → Room k (A.deeper (envOfC qual (defScope st) s.heap.objs.size fa cdv)) → ISs (cxOf CX0 P w K mg bs N qual (defScope st) fa cdv A outer s H E).nox cad (defBody st) u) :
    FnG P w K mg bs (k + 1) fa fd ps (spOf K cad (mkFn N.length ps.length u)) := by
  refine fnG_of F S (fun vs H Q E h => ?_) (fun cdv A outer s H vs Q E hg hr h => ?_)
  · obtain ⟨as, st, ds, d, st', R, r, e, _⟩ := h
    unfold mkFn at e
    split at e
    · rename_i hl
      rw [← r.length]
      exact hl
    · cases e
  · refine ⟨_, hbody cdv A outer s H E hg hr, ?_⟩
    obtain ⟨as, st, ds, d, st', R, r, e, P⟩ := h
    unfold mkFn at e
    split at e
    · rename_i hl
      have hst : L2.start N vs = vs.map some ++ List.replicate (N.length - ps.length) none := by
        unfold L2.start
        rw [← r.length, hl]
      rw [hst]
      split at e
      · rename_i d' ρ' st'' e1
        cases e
        refine ⟨as, st, _, _, ρ', _, R, ER.start r (N.length - ps.length), e1, fun as' H' σ' x R' E' v rv => P as' H' v x R' rv⟩
      · rename_i ρ' st'' e1
        cases e
        exact ⟨as, st, _, _, ρ', _, R, ER.start r (N.length - ps.length), e1, fun as' H' σ' x R' E' => P as' H' .non x R' .non⟩
      · cases e
    · cases e
theorem fn_factG {x : Str} {st : Stmt} {N ps : List Str} {k : Nat} {u : MS} (A : FnAt K mg x st ps) (S : FnScope N ps (defScope st))
    (hbody : ∀ (fa : Addr) (cdv : Value) (A : Around) (outer : List Env) (s : Shared) (H : Hp) (E : XK), A.guards = some [] → Room k (A.deeper (envOfC x (defScope st) s.heap.objs.size fa cdv)) → ISs (cxOf CX0 P w K mg bs N x (defScope st) fa cdv A outer s H E).nox cad (defBody st) u) :
    FnFactG P w K mg bs cad x (k + 1) (mkFn N.length ps.length u) := by
  obtain ⟨f, fd, hm, F, hb⟩ := A.ex
  exact ⟨f, fd, ps, fn_okG F S (fun cdv A outer s H E hg hr => hbody f cdv A outer s H E hg hr), hm, F.kp, hb⟩
end
section
variable {X : Cx} {cad : Cad} {e : Expr} {g : MA} {pos p : Pos} {es : List Expr} {x : Str} {k : Nat} {F : FN}
theorem ie_callG (G : FnFactG X.prog X.w X.K X.mg X.base cad x k F) (hG : X.A.guards = some []) (hr : Room k X.A) (hg : Gl X x) (ha : IA X cad (e :: es) g) (hdb : (x == ("__debug__" : Str)) = false := by decide)
    (he : starEach (e :: es) X.env = (false, eval e X.env) :: starEach es X.env := by rfl) (hpl : (backTo pos (starEach es X.env)).any (·.1) = false := by rfl) : IE X cad (.Call (.Name x p) (e :: es) [] pos) (eCall F g) := by
  obtain ⟨fa, fd, ps, G, hm, hk, hb⟩ := G.ex
  refine pe_weak (pe_callG (E := E0) (dvs := []) G hG hr hg hm hk hb .nil pass0 ha hdb he hpl) fun σ H Q => ?_
  rintro ⟨as, st, ρ, d, st', R, E, q, P⟩
  obtain ⟨⟨ds, st1⟩, e1, q⟩ := bind_some q
  exact tIA_run R E e1 fun as1 H1 vs x1 R1 E1 rs => ⟨as1, st1, ds, d, st', R1, by rw [List.append_nil]; exact rs, q, P.ext x1⟩
end
end MP

set_option maxRecDepth 100000
namespace MP
open PySem PySem.Spec PyProof.Rows L2
section
variable {P : Program} {w : World} {K : PySem.W.Frag} {mg mb : Str → Option Value} {k : Nat} {fa a : Addr} {fd : FuncData} {x : Str} {sp : Sp} {t : Shared} {vs : List Value} {ns : List Int}
theorem runAt (KX : K.In t.heap) (hns : t.heap.Ns mainGlobals mg) (hb : t.heap.Ns builtinsNs mb) (hbb : ∀ y : Str, y ≠ "__name__" → mb y = bootBuiltins y) (hlim : t.heap.NoLimit) (hg : t.gens = #[])
    (ha : t.heap.get? a = some { cls := .type "list", data := .seq vs.toArray }) (hr : Room k callerA) (F : ∀ bs : Heap, K.In bs → bs.Ns mainGlobals mg → FnG P w K mg bs k fa fd [x] sp) (hbind : ∀ (s : Shared) (u : Value), BindsTo s fd ⟨[u], []⟩ [(x, u)])
    {H : Hp} (hO : L2.Only H) (hsp : sp [.ref a] H (fun v _ => v = .bl true) fun _ _ _ => False) (hok : HOk P w H t.heap) (only : ∀ b, H b ≠ none → b = a) (kno : H a ≠ none → K.lookup a = none) :
    codeAny (model P w) callerA (.call (.ref fa) ⟨[.ref a], []⟩) (fun r s' => r = .ok (.ret (.bool true)) ∧ OldK t.heap s'.heap ∧ s'.os = t.os ∧ AllBare s'.gens) t := by
  have stays : ∀ {b : Addr} {o : Obj}, t.heap.get? b = some o → (b = a → H b = none) → (hidT t.heap H).get? b = some o := fun {b o} z hz => hidT_get z (by
    cases q : H b with
    | none => rfl
    | some u =>
      have hba := only b (by rw [q]; exact Option.some_ne_none u)
      rw [hz hba] at q
      cases q)
  have nsp : ∀ {b : Addr} {m : Str → Option Value}, t.heap.Ns b m → (hidT t.heap H).Ns b m := fun {b m} ⟨o, es, ep, z, hd, rest⟩ => ⟨o, es, ep, stays z (fun hba => by
    rw [hba, ha] at z
    have hz := Option.some.inj z
    rw [← hz] at hd
    have hq : Data.seq vs.toArray _ = Data.dict es ep := hd
    cases hq), hd, rest⟩
  have kin : K.In (hidT t.heap H) := fun b o z => stays (KX b o z) (fun hba => by
    cases q : H b with
    | none => rfl
    | some u =>
      have := kno (by rw [← hba, q]; exact Option.some_ne_none u)
      rw [hba, this] at z
      cases z)
  obtain ⟨ml, l1, l2⟩ := hlim
  have md : Mod K mg (hidT t.heap H) := ⟨kin, nsp hns, ⟨mb, nsp hb, hbb⟩, ⟨ml, nsp l1, l2⟩⟩
  have ent : Env0 P w K mg (hidT t.heap H) callerA [] t H := ⟨rfl, md, fun b o z => of_hidT z, Nat.le_of_eq (hidT_size _ _), trivial, fun b hb => (List.not_mem_nil hb).elim, hok, .of_eq hg⟩
  have run := (F _ kin (nsp hns)).go callerA [] t H ⟨[.ref a], []⟩ [.ref a] [.ref a] (fun v _ => v = .bl true) (fun _ _ _ => False) rfl hr ent (hbind t (.ref a)) (.cons rfl .nil) hsp
  refine codeAny_mono run fun r t2 z => ?_
  match r, z with
  | .error e, z => exact False.elim z
  | .ok .next, z => exact False.elim z
  | .ok .brk, z => exact False.elim z
  | .ok .cont, z => exact False.elim z
  | .ok (.ret u), z =>
    obtain ⟨v, H2, os, bare, un, hok2, rv, q⟩ := z
    have hv : v = .bl true := q
    rw [hv] at rv
    have hu : u = Value.bool true := rv
    refine ⟨by rw [hu], OldK.of_keep fun b o hbo => ?_, os, bare⟩
    cases q : H b with
    | none => exact un.keep b o hbo q (fun z => (List.not_mem_nil (show b ∈ ([] : List Addr) from z)).elim) (by simp)
    | some y =>
      obtain hn | ⟨ob, xs, hs⟩ := hO b
      · rw [hn] at q
        cases q
      · have f1 := (hok b _ hs).1
        have f2 := (hok2 b _ (un.frzs b ob _ hs)).1
        rw [hbo] at f1
        cases f1
        exact f2
theorem lawG (KX : K.In t.heap) (hns : t.heap.Ns mainGlobals mg) (hb : t.heap.Ns builtinsNs mb) (hbb : ∀ y : Str, y ≠ "__name__" → mb y = bootBuiltins y) (hlim : t.heap.NoLimit) (hg : t.gens = #[])
    (ha : t.heap.get? a = some { cls := .type "list", data := .seq vs.toArray }) (hi : IntsAre vs ns) (hl : ns.length ≤ sizeLine) (hr : Room k callerA) (F : ∀ bs : Heap, K.In bs → bs.Ns mainGlobals mg → FnG P w K mg bs k fa fd [x] sp) (hbind : ∀ (s : Shared) (u : Value), BindsTo s fd ⟨[u], []⟩ [(x, u)])
    (hsp : ∀ H : Hp, L2.Only H → SqL K H a (ns.map V.int) → sp [.ref a] H (fun v _ => v = .bl true) fun _ _ _ => False) :
    codeAny (model P w) callerA (.call (.ref fa) ⟨[.ref a], []⟩) (fun r s' => r = .ok (.ret (.bool true)) ∧ OldK t.heap s'.heap ∧ s'.os = t.os ∧ AllBare s'.gens) t := by
  have rv := L2.vals_ints hi
  cases hk : K.lookup a with
  | some o =>
    have z := KX a o hk
    rw [ha] at z
    cases z
    have hO : L2.Only fun _ => none := fun _ => Or.inl rfl
    refine runAt KX hns hb hbb hlim hg ha hr F hbind hO (hsp _ hO (Or.inr ⟨_, vs.toArray, _, hk, rfl, rfl, rfl, ?_, ?_⟩)) (fun b u z => ?_) (fun b z => absurd rfl z) (fun z => absurd rfl z)
    · rw [List.size_toArray, hi.length]
      exact hl
    · simpa using rv
    · have zz : (none : Option HO) = some u := z
      cases zz
  | none =>
    let G : Hp := fun b => if b = a then some (.frz { cls := .type "list", data := .seq vs.toArray } (.lst (ns.map V.int))) else none
    have ga : G a = some (.frz { cls := .type "list", data := .seq vs.toArray } (.lst (ns.map V.int))) := if_pos rfl
    have gn : ∀ b, b ≠ a → G b = none := fun b h => if_neg h
    have hO : L2.Only G := fun b => by
      by_cases h : b = a
      · rw [h]
        exact Or.inr ⟨_, _, ga⟩
      · exact Or.inl (gn b h)
    refine runAt KX hns hb hbb hlim hg ha hr F hbind hO (hsp G hO (Or.inl (Or.inr ⟨{ cls := .type "list", data := .seq vs.toArray }, ga⟩))) (fun b u z => ?_) (fun b z => ?_) (fun _ => hk)
    · by_cases h : b = a
      · rw [h] at z ⊢
        rw [ga] at z
        cases z
        refine ⟨ha, ?_, vs, _, rv, ha⟩
        rw [List.length_map]
        exact hl
      · rw [gn b h] at z
        cases z
    · by_cases h : b = a
      · exact h
      · exact absurd (gn b h) z
end
theorem law_impG {P : Program} {w : World} {K : PySem.W.Frag} {mg : Str → Option Value} {bs : Heap} {cad : Cad} {k : Nat} {f : Addr} {fd : FuncData} {ps : List Str} {F : FN} (G : FnG P w K mg bs k f fd ps (spOf K cad F))
    (hlaw : ∀ ns : List Int, ns.length ≤ 63 → ∃ st', F [.ref 0] [.fz (ns.map D.int)] = some (.bl true, st')) : FnG P w K mg bs k f fd ps (spLaw K) := by
  refine G.imp fun vs H Q E h => ?_
  obtain ⟨a, ns, rfl, hs, ho, hl, q⟩ := h
  obtain ⟨st', e⟩ := hlaw ns hl
  refine ⟨[a], [.fz (ns.map D.int)], [.ref 0], .bl true, st', ⟨rfl, fun i j b o u h1 h2 h3 h4 h5 h6 => ?_, fun n o b h1 h2 => ?_⟩, .cons (.ref rfl) .nil, e, fun as' H' v x R' r => ?_⟩
  · cases i with
    | zero =>
      cases h3
      cases h5
    | succ i => simp at h3
  · cases n with
    | zero =>
      cases h1
      cases h2
      refine ⟨ns.map V.int, ?_, VRs.ints ns⟩
      rcases hs with (h | h) | h
      · rcases ho a with z | ⟨ob, xs, z⟩
        · rw [z] at h
          cases h
        · rw [z] at h
          cases h
      · exact .inl h
      · exact .inr fun H' => .inr h
    | succ n => simp at h1
  · cases r
    exact q H'
theorem walkG {l : PySem.W.OpenLaw} {q : Program} {loose : List Str} {XP : (Str → Option Value) → Heap → Prop} {YP : World → Heap → Prop} {d : DefRec} {K : Params → PySem.W.Frag} {x : Str} {k : Nat} (hn : l.most = some 63) (hdf : d.params.defaults = []) (hr : Room k callerA)
    (hY : ∀ (w : World) (h : Heap), YP w h → (K w.params).In h)
    (F : ∀ (w : World) (mg : Str → Option Value) (fa : Addr) (h : Heap), (K w.params).In h → h.Ns mainGlobals mg → mg d.name = some (.ref fa) →
      ∃ fd : FuncData, (∀ (s : Shared) (u : Value), BindsTo s fd ⟨[u], []⟩ [(x, u)]) ∧ ∀ bs : Heap, (K w.params).In bs → bs.Ns mainGlobals mg → FnG l.prog w (K w.params) mg bs k fa fd [x] (spLaw (K w.params))) :
    PySem.W.WalkO q loose XP YP l.row.toRowW d [] (fun f vs => PySem.call f vs) := by
  refine Att.attach_call hn hdf fun w t0 t1 mg mb fa o pm cd doc a vs ns G Y ho hd hcd hmg hobj hints hlen hg => ?_
  obtain ⟨fd, hb, hF⟩ := F w mg fa _ (hY w _ Y) G.T.g hmg
  exact lawG (hY w _ Y) G.T.g G.T.b G.T.builtins G.T.nolimit hg hobj hints (Nat.le_trans hlen (by decide)) hr hF hb fun H hO hS => ⟨a, ns, rfl, hS, hO, hlen, fun _ => rfl⟩
end MP

set_option maxRecDepth 100000
namespace MP
open PySem PySem.Spec PyProof.Rows L2
def okT (z : Str) : Option D := if okS z.cps.toList = true then some (.str z.cps.toList) else none
theorem okT_now {K : PySem.W.Frag} {cad : Cad} {as : List Addr} {st st' : Sto} {H : Hp} {z : Str} {d : D} {Q : VK} (R : Rel K cad as st H) (e : okT z = some d) (P : Post K cad as H st d Q) : Q (.str z) H := by
  unfold okT at e
  split at e
  · rename_i h
    cases e
    have := P.now R (.str h)
    rwa [mkS_of] at this
  · cases e
section
variable {K : PySem.W.Frag} {cad : Cad}
def m0B (g : Str → Bool) : D → FN := fun x ds st => match x, ds with
  | .str l, [] => some (.bl (g (mkS l)), st)
  | _, _ => none
theorem md_0B (g : Str → Bool) : MtD K cad (fun x xs H Q => ∃ a, x = .str a ∧ xs = [] ∧ True ∧ Q (.bl (g a)) H) (m0B g) := by
  intro as st H x v ds vs d st' Q R r1 r2 e P
  cases r1 with
  | @str l hl =>
    cases r2 with
    | nil =>
      cases e
      exact ⟨_, rfl, rfl, trivial, P.now R (.bl _)⟩
    | cons _ _ => cases e
  | _ => cases e
def find3M : D → FN := fun x ds st => match x, ds with
  | .str l, [.str m, .int i] => some (.int (Txt.find3 (mkS l) (mkS m) i), st)
  | _, _ => none
theorem md_find3 : MtD K cad (fun x xs H Q => ∃ (a b : Str) (i : Int), x = .str a ∧ xs = [.str b, .int i] ∧ Q (.int (Txt.find3 a b i)) H) find3M := by
  intro as st H x v ds vs d st' Q R r1 r2 e P
  cases r1 with
  | @str l hl =>
    match ds, r2, e with
    | [.str m, .int i], .cons (.str _) (.cons (.int _) .nil), e =>
      cases e
      exact ⟨_, _, _, rfl, rfl, P.now R (.int _)⟩
  | _ => cases e
def partM : D → FN := fun x ds st => match x, ds with
  | .str l, [.str m] => if m ≠ [] ∧ l.length ≤ LIM then (okT (Txt.partition (mkS l) (mkS m)).1).bind fun a => (okT (Txt.partition (mkS l) (mkS m)).2.1).bind fun b => (okT (Txt.partition (mkS l) (mkS m)).2.2).map fun c => (.tup [a, b, c], st) else none
  | _, _ => none
theorem okT_vr {as : List Addr} {H : Hp} {z : Str} {d : D} (e : okT z = some d) : VR K as H d (.str z) := by
  unfold okT at e
  split at e
  · rename_i h
    cases e
    have : VR K as H (.str z.cps.toList) (.str (mkS z.cps.toList)) := .str h
    rwa [mkS_of] at this
  · cases e
theorem md_part : MtD K cad (fun x xs H Q => ∃ a b, x = .str a ∧ xs = [.str b] ∧ (b.length == 0) = false ∧ a.length ≤ sizeLine ∧ ∀ p, H p = none → Q (.ref p) (upd H p (.tup [.str (Txt.partition a b).1, .str (Txt.partition a b).2.1, .str (Txt.partition a b).2.2]))) partM := by
  intro as st H x v ds vs d st' Q R r1 r2 e P
  cases r1 with
  | @str l hl =>
    match ds, r2, e with
    | [.str m], .cons (.str _) .nil, e =>
      simp only [partM] at e
      split at e
      · rename_i hm
        obtain ⟨a, ea, e⟩ := bind_some e
        obtain ⟨b, eb, e⟩ := bind_some e
        obtain ⟨c, ec, e⟩ := map_some e
        cases e
        refine ⟨_, _, rfl, rfl, ?_, ?_, fun p hp => P.tup R (.cons (okT_vr ea) (.cons (okT_vr eb) (.cons (okT_vr ec) .nil))) hp⟩
        · rw [mkS_len]
          exact beq_eq_false_iff_ne.mpr fun z => hm.1 (List.length_eq_zero_iff.mp z)
        · rw [mkS_len]
          exact lim_ok hm.2
      · cases e
  | _ => cases e
def okTs : List Str → Option (List D)
  | [] => some []
  | z :: r => (okT z).bind fun d => (okTs r).map fun ds => d :: ds
theorem okTs_vr {as : List Addr} {H : Hp} : ∀ {zs : List Str} {ds : List D}, okTs zs = some ds → VRs K as H ds (zs.map V.str)
  | [], _, e => by
    cases e
    exact .nil
  | z :: r, _, e => by
    obtain ⟨d, e1, e⟩ := bind_some e
    obtain ⟨ds, e2, e⟩ := map_some e
    cases e
    exact .cons (okT_vr e1) (okTs_vr e2)
def splitM : D → FN := fun x ds st => match x, ds with
  | .str l, [.str m] => if m ≠ [] ∧ l.length + 2 ≤ LIM then (okTs (Txt.split (mkS l) (mkS m))).map fun xs => (.ref st.length, st ++ [.lst xs]) else none
  | _, _ => none
theorem md_split : MtD K cad (fun x xs H Q => ∃ a b, x = .str a ∧ xs = [.str b] ∧ (b.length == 0) = false ∧ a.length + 2 ≤ sizeLine ∧ rNewStrs (Txt.split a b) H Q) splitM := by
  intro as st H x v ds vs d st' Q R r1 r2 e P
  cases r1 with
  | @str l hl =>
    match ds, r2, e with
    | [.str m], .cons (.str _) .nil, e =>
      simp only [splitM] at e
      split at e
      · rename_i hm
        obtain ⟨xs, ex, e⟩ := map_some e
        cases e
        refine ⟨_, _, rfl, rfl, ?_, ?_, fun p hp => P.lst R (okTs_vr ex) hp⟩
        · rw [mkS_len]
          exact beq_eq_false_iff_ne.mpr fun z => hm.1 (List.length_eq_zero_iff.mp z)
        · rw [mkS_len]
          exact lim_ok hm.2
      · cases e
  | _ => cases e
def lstripM : D → FN := fun x ds st => match x, ds with
  | .str l, [.str m] => if l.length ≤ LIM then (okT (Txt.lstripChars (mkS l) (mkS m))).map fun d => (d, st) else none
  | _, _ => none
theorem md_lstrip : MtD K cad (fun x xs H Q => ∃ a b, x = .str a ∧ xs = [.str b] ∧ a.length ≤ sizeLine ∧ Q (.str (Txt.lstripChars a b)) H) lstripM := by
  intro as st H x v ds vs d st' Q R r1 r2 e P
  cases r1 with
  | @str l hl =>
    match ds, r2, e with
    | [.str m], .cons (.str _) .nil, e =>
      simp only [lstripM] at e
      split at e
      · rename_i hm
        obtain ⟨z, ez, e⟩ := map_some e
        cases e
        refine ⟨_, _, rfl, rfl, ?_, okT_now (st' := st) R ez P⟩
        rw [mkS_len]
        exact lim_ok hm
      · cases e
  | _ => cases e
def intTO (x : D) (_ : Sto) : Option D := match x with
  | .str l => if l.length ≤ 640 then (PySem.intText? (mkS l)).map D.int else none
  | _ => none
theorem cd_intT : CallD K cad (fun xs H Q => ∃ a n, xs = [.str a] ∧ PySem.intText? a = some n ∧ a.length ≤ 640 ∧ Q (.int n) H) (o1 intTO) := cd1 fun as st H x v d Q R r e P => by
  cases r with
  | @str l hl =>
    simp only [intTO] at e
    split at e
    · rename_i h
      obtain ⟨n, e1, e⟩ := map_some e
      cases e
      exact ⟨_, n, rfl, e1, by rw [mkS_len]; exact h, P.now R (.int _)⟩
    · cases e
  | _ => cases e
def divmodF : FN := fun ds st => match ds with
  | [.int i, .int j] => if 0 < j ∧ j < 1073741824 then some (.tup [.int (i / j), .int (i % j)], st) else none
  | _ => none
end
section
variable {X : Cx} {cad : Cad} {e a b c : Expr} {f h : ME} {g : MA} {pos p apos cpos p2 p3 pos2 pos3 : Pos} {es : List Expr}
theorem ie_isdigit (ha : IE X cad a f) (hbase : attributeBase a "isdigit" X.env (eval a X.env) = eval a X.env := by rfl) (hline : (apos.endLine == cpos.line) = true := by rfl) : IE X cad (.Call (.Attribute a "isdigit" apos) [] [] cpos) (eBM isS (m0B Txt.isdigit) f aNil) :=
  ie_bm0 (fun _ _ _ _ _ _ r e => isS_ty r e) (md_0B _) PySem.F.plainAttrs_str PySem.F.slot_str_isdigit PySem.F.type_str_isdigit mt_isdigit ha hbase hline
theorem ie_isalnum (ha : IE X cad a f) (hbase : attributeBase a "isalnum" X.env (eval a X.env) = eval a X.env := by rfl) (hline : (apos.endLine == cpos.line) = true := by rfl) : IE X cad (.Call (.Attribute a "isalnum" apos) [] [] cpos) (eBM isS (m0B Txt.isalnum) f aNil) :=
  ie_bm0 (fun _ _ _ _ _ _ r e => isS_ty r e) (md_0B _) PySem.F.plainAttrs_str PySem.F.slot_str_isalnum PySem.F.type_str_isalnum mt_isalnum ha hbase hline
theorem ie_find3 (ha : IE X cad a f) (hes : IA X cad (e :: es) g) (hbase : attributeBase a "find" X.env (eval a X.env) = eval a X.env := by rfl)
    (hfew : ((backTo cpos (starEach (e :: es) X.env)).all (fun x => !x.1) && (backToKw cpos (keywordEach [] X.env)).all (fun x => x.1.isSome)
      && decide ((e :: es).length + ([] : List Keyword).length + (if ([] : List Keyword).isEmpty then 0 else 1) < 30)) = true := by rfl)
    (hline : (apos.endLine == cpos.line) = true := by rfl) (hs : starEach (e :: es) X.env = (false, eval e X.env) :: starEach es X.env := by rfl) (hplain : (backTo cpos (starEach es X.env)).any (·.1) = false := by rfl) :
    IE X cad (.Call (.Attribute a "find" apos) (e :: es) [] cpos) (eBM isS find3M f g) :=
  ie_bm (fun _ _ _ _ _ _ r e => isS_ty r e) md_find3 PySem.F.plainAttrs_str PySem.F.slot_str_find PySem.F.type_str_find mt_find3 ha hes hbase hfew hline hs hplain
theorem ie_partition (ha : IE X cad a f) (hes : IA X cad (e :: es) g) (hbase : attributeBase a "partition" X.env (eval a X.env) = eval a X.env := by rfl)
    (hfew : ((backTo cpos (starEach (e :: es) X.env)).all (fun x => !x.1) && (backToKw cpos (keywordEach [] X.env)).all (fun x => x.1.isSome)
      && decide ((e :: es).length + ([] : List Keyword).length + (if ([] : List Keyword).isEmpty then 0 else 1) < 30)) = true := by rfl)
    (hline : (apos.endLine == cpos.line) = true := by rfl) (hs : starEach (e :: es) X.env = (false, eval e X.env) :: starEach es X.env := by rfl) (hplain : (backTo cpos (starEach es X.env)).any (·.1) = false := by rfl) :
    IE X cad (.Call (.Attribute a "partition" apos) (e :: es) [] cpos) (eBM isS partM f g) :=
  ie_bm (fun _ _ _ _ _ _ r e => isS_ty r e) md_part PySem.F.plainAttrs_str PySem.F.slot_str_partition PySem.F.type_str_partition mt_partition ha hes hbase hfew hline hs hplain
theorem ie_split (ha : IE X cad a f) (hes : IA X cad (e :: es) g) (hbase : attributeBase a "split" X.env (eval a X.env) = eval a X.env := by rfl)
    (hfew : ((backTo cpos (starEach (e :: es) X.env)).all (fun x => !x.1) && (backToKw cpos (keywordEach [] X.env)).all (fun x => x.1.isSome)
      && decide ((e :: es).length + ([] : List Keyword).length + (if ([] : List Keyword).isEmpty then 0 else 1) < 30)) = true := by rfl)
    (hline : (apos.endLine == cpos.line) = true := by rfl) (hs : starEach (e :: es) X.env = (false, eval e X.env) :: starEach es X.env := by rfl) (hplain : (backTo cpos (starEach es X.env)).any (·.1) = false := by rfl) :
    IE X cad (.Call (.Attribute a "split" apos) (e :: es) [] cpos) (eBM isS splitM f g) :=
  ie_bm (fun _ _ _ _ _ _ r e => isS_ty r e) md_split PySem.F.plainAttrs_str PySem.F.slot_str_split PySem.F.type_str_split mt_split ha hes hbase hfew hline hs hplain
theorem ie_lstrip (ha : IE X cad a f) (hes : IA X cad (e :: es) g) (hbase : attributeBase a "lstrip" X.env (eval a X.env) = eval a X.env := by rfl)
    (hfew : ((backTo cpos (starEach (e :: es) X.env)).all (fun x => !x.1) && (backToKw cpos (keywordEach [] X.env)).all (fun x => x.1.isSome)
      && decide ((e :: es).length + ([] : List Keyword).length + (if ([] : List Keyword).isEmpty then 0 else 1) < 30)) = true := by rfl)
    (hline : (apos.endLine == cpos.line) = true := by rfl) (hs : starEach (e :: es) X.env = (false, eval e X.env) :: starEach es X.env := by rfl) (hplain : (backTo cpos (starEach es X.env)).any (·.1) = false := by rfl) :
    IE X cad (.Call (.Attribute a "lstrip" apos) (e :: es) [] cpos) (eBM isS lstripM f g) :=
  ie_bm (fun _ _ _ _ _ _ r e => isS_ty r e) md_lstrip PySem.F.plainAttrs_str PySem.F.slot_str_lstrip PySem.F.type_str_lstrip mt_lstripChars ha hes hbase hfew hline hs hplain
theorem ie_toIntT (hg : Gl X "int") (hm : X.mg "int" = none) (ha : IA X cad (e :: es) g) (he : starEach (e :: es) X.env = (false, eval e X.env) :: starEach es X.env := by rfl) (hpl : (backTo pos (starEach es X.env)).any (·.1) = false := by rfl) :
    IE X cad (.Call (.Name "int" p) (e :: es) [] pos) (eCall (o1 intTO) g) := ie_callTy cd_intT call_int_str hg hm (by decide +kernel) ha (by decide) (by decide) he hpl
theorem cd_divmod {K : PySem.W.Frag} : CallD K cad (fun xs H Q => ∃ i j, xs = [.int i, .int j] ∧ CDiv i j ∧ ∀ p, H p = none → Q (.ref p) (upd H p (.tup [.int (i / j), .int (i % j)]))) divmodF := by
  intro as st H ds vs d st' Q R r e P
  match ds, r, e with
  | [.int i, .int j], .cons (.int _) (.cons (.int _) .nil), e =>
    simp only [divmodF] at e
    split at e
    · rename_i h
      cases e
      refine ⟨i, j, rfl, ?_, fun p hp => P.tup R (.cons (.int _) (.cons (.int _) .nil)) hp⟩
      exact h
    · cases e
theorem ie_divmod (hg : Gl X "divmod") (hm : X.mg "divmod" = none) (ha : IA X cad (e :: es) g) (he : starEach (e :: es) X.env = (false, eval e X.env) :: starEach es X.env := by rfl) (hpl : (backTo pos (starEach es X.env)).any (·.1) = false := by rfl) :
    IE X cad (.Call (.Name "divmod" p) (e :: es) [] pos) (eCall divmodF g) := ie_callB cd_divmod call_divmod hg hm (by decide +kernel) ha (by decide) (by decide) he hpl
def rRep (K : PySem.W.Frag) : List V → Hp → VK → Prop := fun xs H Q => (∃ a q, xs = [.ref a] ∧ Dp K H (.ref a) q ∧ q.showable = true ∧ q.hasDict = false ∧ q.depth ≤ 50 ∧ q.shown.length ≤ sizeLine ∧ Q (.str q.shown) H) ∨ (xs = [.non] ∧ Q (.str "None") H)
theorem call_reprD (hG : X.A.guards = some []) (hu : X.A.units + 64 < cLine) : CallR X (.builtin "repr") (rRep X.K) := by
  intro pins s σ H xs us Q I rs hh
  rcases hh with ⟨a, q, rfl, hd, hs, hn, hdp, hz, hq⟩ | ⟨rfl, hq⟩
  · obtain ⟨u, rfl, ru⟩ := vals1 rs
    cases ru
    obtain ⟨as, rr⟩ := Dp.reads I q (.ref a) (.ref a) hd rfl
    exact repr_of_reads' rr hs (fun z => absurd z (by rw [hn]; exact Bool.false_ne_true)) hG (by omega) (fun b o z => z) (fun h' u tk hk => ⟨.str _, H, I.kept hk, ⟨u, rfl⟩, hq⟩) hz
  · obtain ⟨u, rfl, ru⟩ := vals1 rs
    cases ru
    exact PySem.P.repr_of_none ⟨.str "None", H, I.tok _, ⟨_, rfl⟩, hq⟩
noncomputable def shO (st : Sto) : D → Option Str
  | .non => some "None"
  | .ref k => (toP st DEEP (.ref k)).bind fun q => if q.showable = true ∧ q.hasDict = false ∧ q.shown.length ≤ LIM then some q.shown else none
  | _ => none
noncomputable def eReprC (ng : Bool) (f h : ME) : ME := fun ρ st => (f ρ st).bind fun x => (shO x.2 x.1).bind fun z => (h ρ x.2).bind fun y => (shO y.2 y.1).map fun u => (.bl (if ng = true then !decide (z = u) else decide (z = u)), y.2)
theorem sh_to {K : PySem.W.Frag} {as : List Addr} {st : Sto} {H : Hp} {d : D} {v : V} {z : Str} {Q : VK} (R : Rel K cad as st H) (r : VR K as H d v) (e : shO st d = some z) (q : Q (.str z) H) : rRep K [v] H Q := by
  cases r with
  | non =>
    cases e
    exact .inr ⟨rfl, q⟩
  | @ref n a ha =>
    obtain ⟨p, e1, e2⟩ := bind_some (show (toP st DEEP (.ref n)).bind _ = some z from e)
    split at e2
    · rename_i hc
      cases e2
      obtain ⟨h1, _, h3⟩ := toP_ok R DEEP (.ref n) (.ref a) p (.ref ha) e1
      exact .inl ⟨a, p, rfl, h1, hc.1, hc.2.1, h3, lim_ok hc.2.2, q⟩
    · cases e2
  | _ => cases e
theorem dec_str {x y : Str} : decide (V.str x = V.str y) = decide (x = y) := by
  by_cases h : x = y
  · subst h
    simp
  · rw [decide_eq_false h, decide_eq_false]
    intro z
    injection z with z
    exact h z
theorem ie_reprC {op : CmpOp} {ng : Bool} {r : R2} (ho : OpR X (compareOp op) r) (hr : ∀ (x y : Str) (H : Hp) (Q : VK), Q (.bl (if ng = true then !decide (x = y) else decide (x = y))) H → r (.str x) (.str y) H Q) (hb : ∀ z : Expr, behindInMarks op z = false)
    (hG : X.A.guards = some []) (hu : X.A.units + 64 < cLine) (hg : Gl X "repr") (hm : X.mg "repr" = none) (ha : IE X cad a f) (hc : IE X cad b h)
    (h1 : starEach [a] X.env = (false, eval a X.env) :: starEach [] X.env := by rfl) (h2 : starEach [b] X.env = (false, eval b X.env) :: starEach [] X.env := by rfl) :
    IE X cad (.Compare (.Call (.Name "repr" p) [a] [] pos) [op] [.Call (.Name "repr" p2) [b] [] pos2] pos3) (eReprC ng f h) := by
  refine pe_weak (pe_cmpR ho (pe_callB (call_reprD hG hu) hg hm (by decide +kernel) (pa_cons ha pa_nil h1) (by decide) (by decide) h1 (by rfl)) (pe_callB (call_reprD hG hu) hg hm (by decide +kernel) (pa_cons hc pa_nil h2) (by decide) (by decide) h2 (by rfl)) (hb _)) fun σ H Q => ?_
  rintro ⟨as, st, ρ, d, st', R, E, w, P⟩
  obtain ⟨⟨x, st1⟩, e1, w⟩ := bind_some w
  obtain ⟨z, e2, w⟩ := bind_some w
  obtain ⟨⟨y, st2⟩, e3, w⟩ := bind_some w
  obtain ⟨u, e4, w⟩ := map_some w
  cases w
  refine tI_run R E e1 fun as1 H1 v x1 R1 E1 r1 => ?_
  unfold tNil
  show rRep _ _ _ _
  refine sh_to R1 r1 e2 ?_
  refine tI_run R1 E1 e3 fun as2 H2 v2 x2 R2 E2 r2 => ?_
  show rRep _ _ _ _
  refine sh_to R2 r2 e4 ?_
  exact hr z u H2 Q (((P.ext x1).ext x2).now R2 (.bl _))
theorem ie_reprEq (hG : X.A.guards = some []) (hu : X.A.units + 64 < cLine) (hg : Gl X "repr") (hm : X.mg "repr" = none) (ha : IE X cad a f) (hc : IE X cad b h)
    (h1 : starEach [a] X.env = (false, eval a X.env) :: starEach [] X.env := by rfl) (h2 : starEach [b] X.env = (false, eval b X.env) :: starEach [] X.env := by rfl) :
    IE X cad (.Compare (.Call (.Name "repr" p) [a] [] pos) [.Eq] [.Call (.Name "repr" p2) [b] [] pos2] pos3) (eReprC false f h) :=
  ie_reprC op_eq (fun x y H Q q => ⟨rfl, by rw [dec_str]; exact q⟩) (fun z => nomark _) hG hu hg hm ha hc h1 h2
theorem ie_reprNe (hG : X.A.guards = some []) (hu : X.A.units + 64 < cLine) (hg : Gl X "repr") (hm : X.mg "repr" = none) (ha : IE X cad a f) (hc : IE X cad b h)
    (h1 : starEach [a] X.env = (false, eval a X.env) :: starEach [] X.env := by rfl) (h2 : starEach [b] X.env = (false, eval b X.env) :: starEach [] X.env := by rfl) :
    IE X cad (.Compare (.Call (.Name "repr" p) [a] [] pos) [.NotEq] [.Call (.Name "repr" p2) [b] [] pos2] pos3) (eReprC true f h) :=
  ie_reprC op_ne (fun x y H Q q => ⟨rfl, by rw [dec_str]; exact q⟩) (fun z => nomark _) hG hu hg hm ha hc h1 h2
theorem bl_reprC {ng : Bool} {ρ : Rho} {st st' : Sto} {d : D} (e : eReprC ng f h ρ st = some (d, st')) : ∃ k, d = .bl k := by
  obtain ⟨⟨x, st1⟩, e1, w⟩ := bind_some e
  obtain ⟨z, e2, w⟩ := bind_some w
  obtain ⟨⟨y, st2⟩, e3, w⟩ := bind_some w
  obtain ⟨u, e4, w⟩ := map_some w
  cases w
  exact ⟨_, rfl⟩
theorem it_reprC {op : CmpOp} {ng : Bool} {r : R2} (ho : OpR X (compareOp op) r) (hr : ∀ (x y : Str) (H : Hp) (Q : VK), Q (.bl (if ng = true then !decide (x = y) else decide (x = y))) H → r (.str x) (.str y) H Q) (hb : ∀ z : Expr, behindInMarks op z = false)
    (hG : X.A.guards = some []) (hu : X.A.units + 64 < cLine) (hg : Gl X "repr") (hm : X.mg "repr" = none) (ha : IE X cad a f) (hc : IE X cad b h)
    (h1 : starEach [a] X.env = (false, eval a X.env) :: starEach [] X.env := by rfl) (h2 : starEach [b] X.env = (false, eval b X.env) :: starEach [] X.env := by rfl) :
    IT X cad (.Compare (.Call (.Name "repr" p) [a] [] pos) [op] [.Call (.Name "repr" p2) [b] [] pos2] pos3) (tOf (eReprC ng f h)) := by
  refine pt_weak (pt_cmpR ho (pe_callB (call_reprD hG hu) hg hm (by decide +kernel) (pa_cons ha pa_nil h1) (by decide) (by decide) h1 (by rfl)) (pe_callB (call_reprD hG hu) hg hm (by decide +kernel) (pa_cons hc pa_nil h2) (by decide) (by decide) h2 (by rfl)) (hb _)) fun σ H Q => ?_
  rintro ⟨as, st, ρ, d, st', R, E, w, P⟩
  obtain ⟨⟨v0, st0⟩, e0, w⟩ := bind_some w
  obtain ⟨k, ek, w⟩ := map_some w
  obtain ⟨rfl, rfl⟩ := Prod.mk.inj w
  obtain ⟨⟨x, st1⟩, e1, w⟩ := bind_some e0
  obtain ⟨z, e2, w⟩ := bind_some w
  obtain ⟨⟨y, st2⟩, e3, w⟩ := bind_some w
  obtain ⟨u, e4, w⟩ := map_some w
  cases w
  refine tI_run R E e1 fun as1 H1 v x1 R1 E1 r1 => ?_
  unfold tNil
  show rRep _ _ _ _
  refine sh_to R1 r1 e2 ?_
  refine tI_run R1 E1 e3 fun as2 H2 v2 x2 R2 E2 r2 => ?_
  show rRep _ _ _ _
  refine sh_to R2 r2 e4 ?_
  refine hr z u H2 _ ⟨_, rfl, ?_⟩
  cases ek
  exact P as2 H2 (x1.trans x2) R2
theorem it_reprEq (hG : X.A.guards = some []) (hu : X.A.units + 64 < cLine) (hg : Gl X "repr") (hm : X.mg "repr" = none) (ha : IE X cad a f) (hc : IE X cad b h)
    (h1 : starEach [a] X.env = (false, eval a X.env) :: starEach [] X.env := by rfl) (h2 : starEach [b] X.env = (false, eval b X.env) :: starEach [] X.env := by rfl) :
    IT X cad (.Compare (.Call (.Name "repr" p) [a] [] pos) [.Eq] [.Call (.Name "repr" p2) [b] [] pos2] pos3) (tOf (eReprC false f h)) :=
  it_reprC op_eq (fun x y H Q q => ⟨rfl, by rw [dec_str]; exact q⟩) (fun z => nomark _) hG hu hg hm ha hc h1 h2
theorem it_reprNe (hG : X.A.guards = some []) (hu : X.A.units + 64 < cLine) (hg : Gl X "repr") (hm : X.mg "repr" = none) (ha : IE X cad a f) (hc : IE X cad b h)
    (h1 : starEach [a] X.env = (false, eval a X.env) :: starEach [] X.env := by rfl) (h2 : starEach [b] X.env = (false, eval b X.env) :: starEach [] X.env := by rfl) :
    IT X cad (.Compare (.Call (.Name "repr" p) [a] [] pos) [.NotEq] [.Call (.Name "repr" p2) [b] [] pos2] pos3) (tOf (eReprC true f h)) :=
  it_reprC op_ne (fun x y H Q q => ⟨rfl, by rw [dec_str]; exact q⟩) (fun z => nomark _) hG hu hg hm ha hc h1 h2
variable {ρ : Rho} {st : Sto}
noncomputable def kRep4 (ng : Bool) (z : Str) (r : Option (D × Sto)) : Option (D × Sto) := r.bind fun y => (shO y.2 y.1).map fun u => (.bl (if ng = true then !decide (z = u) else decide (z = u)), y.2)
noncomputable def kRep3 (ng : Bool) (h : ME) (ρ : Rho) (st : Sto) (z : Option Str) : Option (D × Sto) := z.bind fun z => kRep4 ng z (h ρ st)
noncomputable def kRep2 (ng : Bool) (h : ME) (ρ : Rho) (r : Option (D × Sto)) : Option (D × Sto) := r.bind fun x => kRep3 ng h ρ x.2 (shO x.2 x.1)
theorem eReprC_at {ng : Bool} : eReprC ng f h ρ st = kRep2 ng h ρ (f ρ st) := rfl
theorem kRep2_some {ng : Bool} {x : D} : kRep2 ng h ρ (some (x, st)) = kRep3 ng h ρ st (shO st x) := rfl
theorem kRep3_some {ng : Bool} {z : Str} : kRep3 ng h ρ st (some z) = kRep4 ng z (h ρ st) := rfl
theorem kRep4_same {z : Str} {y : D} (hz : shO st y = some z) : kRep4 true z (some (y, st)) = some (.bl false, st) := by
  unfold kRep4
  rw [Option.bind_some, hz, Option.map_some]
  simp
theorem kRep4_sameE {z : Str} {y : D} (hz : shO st y = some z) : kRep4 false z (some (y, st)) = some (.bl true, st) := by
  unfold kRep4
  rw [Option.bind_some, hz, Option.map_some]
  simp
end
end MP

set_option maxRecDepth 100000
set_option maxHeartbeats 4000000
namespace Text
open PySem PySem.Spec PyProof.Rows L2 MP
def topS (i : Nat) : Stmt := PySem.Challenge.pw_grassnake_k02_rows_and_indents.main.body.getD i (.Pass ⟨0, 0, 0, 0⟩)
abbrev s_is_told : Stmt := topS 11
abbrev N_is_told : List Str := ["word"]
theorem sc_is_told : FnScope N_is_told ["word"] (defScope s_is_told) := ⟨rfl, rfl, rfl, by decide +kernel, rfl, by decide +kernel, by decide +kernel⟩
abbrev s_is_name : Stmt := topS 12
abbrev N_is_name : List Str := ["thing", "sign"]
theorem sc_is_name : FnScope N_is_name ["thing"] (defScope s_is_name) := ⟨rfl, rfl, rfl, by decide +kernel, rfl, by decide +kernel, by decide +kernel⟩
abbrev s_run_at : Stmt := topS 13
abbrev N_run_at : List Str := ["row", "at", "behind"]
theorem sc_run_at : FnScope N_run_at ["row", "at"] (defScope s_run_at) := ⟨rfl, rfl, rfl, by decide +kernel, rfl, by decide +kernel, by decide +kernel⟩
abbrev s_run_word : Stmt := topS 14
abbrev N_run_word : List Str := ["run"]
theorem sc_run_word : FnScope N_run_word ["run"] (defScope s_run_word) := ⟨rfl, rfl, rfl, by decide +kernel, rfl, by decide +kernel, by decide +kernel⟩
abbrev s_text_at : Stmt := topS 15
abbrev N_text_at : List Str := ["row", "at", "behind"]
theorem sc_text_at : FnScope N_text_at ["row", "at"] (defScope s_text_at) := ⟨rfl, rfl, rfl, by decide +kernel, rfl, by decide +kernel, by decide +kernel⟩
abbrev s_mark_at : Stmt := topS 16
abbrev N_mark_at : List Str := ["row", "at"]
theorem sc_mark_at : FnScope N_mark_at ["row", "at"] (defScope s_mark_at) := ⟨rfl, rfl, rfl, by decide +kernel, rfl, by decide +kernel, by decide +kernel⟩
abbrev s_word_at : Stmt := topS 17
abbrev N_word_at : List Str := ["row", "at", "run", "word", "long"]
theorem sc_word_at : FnScope N_word_at ["row", "at"] (defScope s_word_at) := ⟨rfl, rfl, rfl, by decide +kernel, rfl, by decide +kernel, by decide +kernel⟩
abbrev s_words_of : Stmt := topS 18
abbrev N_words_of : List Str := ["row", "found", "at", "pair"]
theorem sc_words_of : FnScope N_words_of ["row"] (defScope s_words_of) := ⟨rfl, rfl, rfl, by decide +kernel, rfl, by decide +kernel, by decide +kernel⟩
abbrev s_indent_of : Stmt := topS 19
abbrev N_indent_of : List Str := ["row", "blanks", "blocks", "rest"]
theorem sc_indent_of : FnScope N_indent_of ["row"] (defScope s_indent_of) := ⟨rfl, rfl, rfl, by decide +kernel, rfl, by decide +kernel, by decide +kernel⟩
abbrev s_rows_of : Stmt := topS 20
abbrev N_rows_of : List Str := ["text", "found", "number", "row", "words"]
theorem sc_rows_of : FnScope N_rows_of ["text"] (defScope s_rows_of) := ⟨rfl, rfl, rfl, by decide +kernel, rfl, by decide +kernel, by decide +kernel⟩
abbrev s_l_cell_at : Stmt := topS 22
abbrev N_l_cell_at : List Str := ["_law_script", "_law_k"]
theorem sc_l_cell_at : FnScope N_l_cell_at ["_law_script", "_law_k"] (defScope s_l_cell_at) := ⟨rfl, rfl, rfl, by decide +kernel, rfl, by decide +kernel, by decide +kernel⟩
abbrev s_l_mixed : Stmt := topS 23
abbrev N_l_mixed : List Str := ["_law_cell", "_law_k", "_law_number"]
theorem sc_l_mixed : FnScope N_l_mixed ["_law_cell", "_law_k"] (defScope s_l_mixed) := ⟨rfl, rfl, rfl, by decide +kernel, rfl, by decide +kernel, by decide +kernel⟩
abbrev s_l_signs : Stmt := topS 24
abbrev N_l_signs : List Str := ["_law_some"]
theorem sc_l_signs : FnScope N_l_signs [] (defScope s_l_signs) := ⟨rfl, rfl, rfl, by decide +kernel, rfl, by decide +kernel, by decide +kernel⟩
abbrev s_l_told : Stmt := topS 25
abbrev N_l_told : List Str := ["_law_found"]
theorem sc_l_told : FnScope N_l_told [] (defScope s_l_told) := ⟨rfl, rfl, rfl, by decide +kernel, rfl, by decide +kernel, by decide +kernel⟩
abbrev s_l_run : Stmt := topS 26
abbrev N_l_run : List Str := ["_law_run_here"]
theorem sc_l_run : FnScope N_l_run ["_law_run_here"] (defScope s_l_run) := ⟨rfl, rfl, rfl, by decide +kernel, rfl, by decide +kernel, by decide +kernel⟩
abbrev s_l_words : Stmt := topS 27
abbrev N_l_words : List Str := ["_law_row_here", "_law_found", "_law_left", "_law_long", "_law_word", "_law_within", "_law_mark", "_law_rest"]
theorem sc_l_words : FnScope N_l_words ["_law_row_here"] (defScope s_l_words) := ⟨rfl, rfl, rfl, by decide +kernel, rfl, by decide +kernel, by decide +kernel⟩
abbrev s_l_row : Stmt := topS 28
abbrev N_l_row : List Str := ["_law_n", "_law_blanks", "_law_more", "_law_word", "_law_k"]
theorem sc_l_row : FnScope N_l_row ["_law_n"] (defScope s_l_row) := ⟨rfl, rfl, rfl, by decide +kernel, rfl, by decide +kernel, by decide +kernel⟩
abbrev s_l_indent : Stmt := topS 29
abbrev N_l_indent : List Str := ["_law_row_here", "_law_blanks"]
theorem sc_l_indent : FnScope N_l_indent ["_law_row_here"] (defScope s_l_indent) := ⟨rfl, rfl, rfl, by decide +kernel, rfl, by decide +kernel, by decide +kernel⟩
abbrev s_law : Stmt := topS 30
abbrev N_law : List Str := ["_law_script", "_law_many", "_law_rows", "_law_due", "_law_k", "_law_words_here", "_law_found", "_law_turn"]
theorem sc_law : FnScope N_law ["_law_script"] (defScope s_law) := ⟨rfl, rfl, rfl, by decide +kernel, rfl, by decide +kernel, by decide +kernel⟩
structure Txt (K : PySem.W.Frag) (w : World) (mg : Str → Option Value) (cad : Cad) : Prop where
  b_all : mg "all" = none
  b_bool : mg "bool" = none
  b_divmod : mg "divmod" = none
  b_enumerate : mg "enumerate" = none
  b_int : mg "int" = none
  b_isinstance : mg "isinstance" = none
  b_len : mg "len" = none
  b_list : mg "list" = none
  b_range : mg "range" = none
  b_repr : mg "repr" = none
  b_str : mg "str" = none
  c_FIGURES : ∃ t, mg "FIGURES" = some (.str "0123456789" t)
  c_LETTERS : ∃ t, mg "LETTERS" = some (.str "abcdefghijklmnopqrstuvwxyzABCDEFGHIJKLMNOPQRSTUVWXYZ" t)
  c_LONG_MARKS : GTup K mg "LONG_MARKS" (.tup [.str [47, 47], .str [60, 61], .str [62, 61], .str [61, 61], .str [33, 61], .str [43, 61], .str [45, 61], .str [42, 61]])
  c_MOST_BLOCKS : ∃ t, mg "MOST_BLOCKS" = some (.int 12 t)
  c_MOST_SIGNS : ∃ t, mg "MOST_SIGNS" = some (.int 12 t)
  c_MOST_TEXT : ∃ t, mg "MOST_TEXT" = some (.int 40 t)
  c_SHORT_MARKS : ∃ t, mg "SHORT_MARKS" = some (.str "+-*&|<>=(),.:" t)
  c_STEP : ∃ t, mg "STEP" = some (.int 4 t)
  c_TOLD : GTup K mg "TOLD" (.tup [.str [97, 110, 100], .str [97, 115], .str [98, 114, 101, 97, 107], .str [99, 108, 97, 115, 115], .str [99, 111, 110, 116, 105, 110, 117, 101], .str [100, 101, 102], .str [101, 108, 105, 102], .str [101, 108, 115, 101], .str [101, 120, 99, 101, 112, 116], .str [70, 97, 108, 115, 101], .str [102, 105, 110, 97, 108, 108, 121], .str [102, 111, 114], .str [102, 114, 111, 109]])
  c_TOLD_TOO : GTup K mg "TOLD_TOO" (.tup [.str [103, 108, 111, 98, 97, 108], .str [105, 102], .str [105, 110], .str [78, 111, 110, 101], .str [110, 111, 110, 108, 111, 99, 97, 108], .str [110, 111, 116], .str [111, 114], .str [112, 97, 115, 115], .str [114, 97, 105, 115, 101], .str [114, 101, 116, 117, 114, 110], .str [84, 114, 117, 101], .str [116, 114, 121], .str [119, 104, 105, 108, 101]])
  f_is_told : FnAt K mg "is_told" s_is_told ["word"]
  f_is_name : FnAt K mg "is_name" s_is_name ["thing"]
  f_run_at : FnAt K mg "run_at" s_run_at ["row", "at"]
  f_run_word : FnAt K mg "run_word" s_run_word ["run"]
  f_text_at : FnAt K mg "text_at" s_text_at ["row", "at"]
  f_mark_at : FnAt K mg "mark_at" s_mark_at ["row", "at"]
  f_word_at : FnAt K mg "word_at" s_word_at ["row", "at"]
  f_words_of : FnAt K mg "words_of" s_words_of ["row"]
  f_indent_of : FnAt K mg "indent_of" s_indent_of ["row"]
  f_rows_of : FnAt K mg "rows_of" s_rows_of ["text"]
  f_l_cell_at : FnAt K mg "_law_cell_at" s_l_cell_at ["_law_script", "_law_k"]
  f_l_mixed : FnAt K mg "_law_mixed" s_l_mixed ["_law_cell", "_law_k"]
  f_l_signs : FnAt K mg "_law_signs" s_l_signs []
  f_l_told : FnAt K mg "_law_told" s_l_told []
  f_l_run : FnAt K mg "_law_run" s_l_run ["_law_run_here"]
  f_l_words : FnAt K mg "_law_words" s_l_words ["_law_row_here"]
  f_l_row : FnAt K mg "_law_row" s_l_row ["_law_n"]
  f_l_indent : FnAt K mg "_law_indent" s_l_indent ["_law_row_here"]
  f_law : FnAt K mg "law" s_law ["_law_script"]
section
variable {P : Program} {w : World} {K : PySem.W.Frag} {mg : Str → Option Value} {base : Heap} {cad : Cad}
noncomputable def b_is_told : MS :=
    (sRet (eOr (eBin (kIn false) (eVar 0) (eC (.tup [.str [97, 110, 100], .str [97, 115], .str [98, 114, 101, 97, 107], .str [99, 108, 97, 115, 115], .str [99, 111, 110, 116, 105, 110, 117, 101], .str [100, 101, 102], .str [101, 108, 105, 102], .str [101, 108, 115, 101], .str [101, 120, 99, 101, 112, 116], .str [70, 97, 108, 115, 101], .str [102, 105, 110, 97, 108, 108, 121], .str [102, 111, 114], .str [102, 114, 111, 109]]))) (eOr (eBin (kIn false) (eVar 0) (eC (.tup [.str [103, 108, 111, 98, 97, 108], .str [105, 102], .str [105, 110], .str [78, 111, 110, 101], .str [110, 111, 110, 108, 111, 99, 97, 108], .str [110, 111, 116], .str [111, 114], .str [112, 97, 115, 115], .str [114, 97, 105, 115, 101], .str [114, 101, 116, 117, 114, 110], .str [84, 114, 117, 101], .str [116, 114, 121], .str [119, 104, 105, 108, 101]]))) (eBin kEq (eVar 0) (eC (.str [121, 105, 101, 108, 100]))))))
noncomputable def F_is_told : FN := mkFn 1 1 b_is_told
theorem fact_is_told (T : Txt K w mg cad) : FnFact P w K mg base cad "is_told" 1 [] F_is_told := by
  exact fn_fact (k := 0) (N := N_is_told) T.f_is_told sc_is_told fun fa cdv A outer s H E hr => by
    have hu := hr.units
    exact
      (iss_one (is_ret (ie_orV (ie_cmp (cm_in hu) (ie_var (pv 0)) (ie_gtup T.c_TOLD rfl) (by rfl)) (ie_orV (ie_cmp (cm_in hu) (ie_var (pv 0)) (ie_gtup T.c_TOLD_TOO rfl) (by rfl)) (ie_one (ie_cmp (cm_eq hu) (ie_var (pv 0)) (ie_str (by decide +kernel)) (nomark _)))))))
noncomputable def eC_is_name_1 : ME :=
    (eBin (kIn false) (eVar 1) (eBin opAdd (eBin opAdd (eC (.str [97, 98, 99, 100, 101, 102, 103, 104, 105, 106, 107, 108, 109, 110, 111, 112, 113, 114, 115, 116, 117, 118, 119, 120, 121, 122, 65, 66, 67, 68, 69, 70, 71, 72, 73, 74, 75, 76, 77, 78, 79, 80, 81, 82, 83, 84, 85, 86, 87, 88, 89, 90])) (eC (.str [48, 49, 50, 51, 52, 53, 54, 55, 56, 57]))) (eC (.str [95]))))
noncomputable def b_is_name : MS :=
    (sSeq (sIf (tOr (tNot (tOf (eUn (isiO [.str]) (eVar 0)))) (tOr (tNot (tOf (eChain kLe kLe (eC (.int 1)) (eCall (o1 lenO) (aCons (eVar 0) aNil)) (eC (.int 12))))) (tOf (eCall F_is_told (aCons (eVar 0) aNil))))) (sRet (eC (.bl false))) sNext)
    (sRet (eAnd (eBin (kIn false) (eBin kIx (eVar 0) (eC (.int 0))) (eC (.str [97, 98, 99, 100, 101, 102, 103, 104, 105, 106, 107, 108, 109, 110, 111, 112, 113, 114, 115, 116, 117, 118, 119, 120, 121, 122, 65, 66, 67, 68, 69, 70, 71, 72, 73, 74, 75, 76, 77, 78, 79, 80, 81, 82, 83, 84, 85, 86, 87, 88, 89, 90]))) (eCall (o1 allO) (aCons (eLc [1] (iV (eVar 0)) (mName 1) tYesM eC_is_name_1) aNil)))))
noncomputable def F_is_name : FN := mkFn 2 1 b_is_name
theorem fact_is_name (T : Txt K w mg cad) : FnFact P w K mg base cad "is_name" 2 [] F_is_name := by
  obtain ⟨tk_FIGURES, c_FIGURES⟩ := T.c_FIGURES
  obtain ⟨tk_LETTERS, c_LETTERS⟩ := T.c_LETTERS
  obtain ⟨tk_MOST_SIGNS, c_MOST_SIGNS⟩ := T.c_MOST_SIGNS
  exact fn_fact (k := 1) (N := N_is_name) T.f_is_name sc_is_name fun fa cdv A outer s H E hr => by
    have hu := hr.units
    exact
      (iss_cons (is_if (it_bool (iw_or (it_not (it_of (ie_isi (n := .str) (by decide) rfl T.b_isinstance (ie_var (pv 0)) (pe_bltn (v := .ty "str") rfl T.b_str (by decide +kernel) rfl)))) (iw_or (it_not (it_chain cm_le cm_le ie_int (ie_len rfl T.b_len (ia_cons (ie_var (pv 0)) ia_nil)) (ie_gint rfl c_MOST_SIGNS) bl_ord)) (iw_or1 (it_of (ie_call (fact_is_told T) (hr.mono (by decide)) rfl (ia_cons (ie_var (pv 0)) ia_nil))))))) (iss_one (is_ret ie_bl)) iss_nil)
      (iss_one (is_ret (ie_andV (ie_cmp (cm_in hu) (ie_ix hu (ie_var (pv 0)) ie_int (fun _ _ => rfl)) (ie_gstr rfl c_LETTERS (by decide +kernel)) (by rfl)) (ie_one (ie_all rfl rfl T.b_all (ia_cons (ie_lc (own := [("sign", 1)]) (t := tYesM) (tt := tYes) rfl sc_is_name.nd (ii_v (ie_var (pv 0))) (blkOk_by (N := N_is_name) (sc := defScope s_is_name) (by decide +kernel)) (fun _ _ _ _ _ => (pg_name (i := 1) sc_is_name.nd rfl (by first | exact Or.inl rfl | exact Or.inr rfl))) (gw_name (i := 1) (by decide)) (fun _ _ _ _ _ => pts_nil) tYes_to (fun _ _ _ _ _ => (ie_cmp (cm_in hu) (ie_var (pv 1)) (ie_add (ie_add (ie_gstr rfl c_LETTERS (by decide +kernel)) (ie_gstr rfl c_FIGURES (by decide +kernel))) (ie_str (by decide +kernel))) (by rfl)))) ia_nil)))))))
noncomputable def tW_run_at_1 : MT :=
    (tAnd (tOf (eBin kLt (eVar 2) (eCall (o1 lenO) (aCons (eVar 0) aNil)))) (tOf (eBin (kIn false) (eBin kIx (eVar 0) (eVar 2)) (eBin opAdd (eBin opAdd (eC (.str [97, 98, 99, 100, 101, 102, 103, 104, 105, 106, 107, 108, 109, 110, 111, 112, 113, 114, 115, 116, 117, 118, 119, 120, 121, 122, 65, 66, 67, 68, 69, 70, 71, 72, 73, 74, 75, 76, 77, 78, 79, 80, 81, 82, 83, 84, 85, 86, 87, 88, 89, 90])) (eC (.str [48, 49, 50, 51, 52, 53, 54, 55, 56, 57]))) (eC (.str [95]))))))
noncomputable def uW_run_at_2 : MS :=
    (sSet 2 (eBin opAdd (eVar 2) (eC (.int 1))))
noncomputable def b_run_at : MS :=
    (sSeq (sSet 2 (eVar 1))
    (sSeq (sWhile tW_run_at_1 uW_run_at_2)
    (sRet (eSl (eVar 0) (oSome (eVar 1)) (oSome (eVar 2))))))
noncomputable def F_run_at : FN := mkFn 3 2 b_run_at
theorem fact_run_at (T : Txt K w mg cad) : FnFact P w K mg base cad "run_at" 1 [] F_run_at := by
  obtain ⟨tk_FIGURES, c_FIGURES⟩ := T.c_FIGURES
  obtain ⟨tk_LETTERS, c_LETTERS⟩ := T.c_LETTERS
  exact fn_fact (k := 0) (N := N_run_at) T.f_run_at sc_run_at fun fa cdv A outer s H E hr => by
    have hu := hr.units
    exact
      (iss_cons (is_set (i := 2) sc_run_at.nd rfl (by first | exact Or.inl rfl | exact Or.inr rfl) (ie_var (pv 1)))
      (iss_cons (is_while PassesOwn.never (it_bool (iw_and (it_cmp cm_lt (ie_var (pv 2)) (ie_len rfl T.b_len (ia_cons (ie_var (pv 0)) ia_nil)) (nomark _) bl_ord) (iw_and1 (it_cmp (cm_in hu) (ie_ix hu (ie_var (pv 0)) (ie_var (pv 2)) (fun _ _ => rfl)) (ie_add (ie_add (ie_gstr rfl c_LETTERS (by decide +kernel)) (ie_gstr rfl c_FIGURES (by decide +kernel))) (ie_str (by decide +kernel))) (by rfl) bl_in)))) (iss_one (is_set (i := 2) sc_run_at.nd rfl (by first | exact Or.inl rfl | exact Or.inr rfl) (ie_add (ie_var (pv 2)) ie_int))))
      (iss_one (is_ret (ie_sl (ie_var (pv 0)) (io_some (ie_var (pv 1))) (io_some (ie_var (pv 2))))))))
noncomputable def b_run_word : MS :=
    (sSeq (sIf (tOf (eCall F_is_told (aCons (eVar 0) aNil))) (sRet (eTup (aCons (eC (.str [116, 111, 108, 100])) (aCons (eVar 0) aNil)))) sNext)
    (sSeq (sIf (tOf (eCall F_is_name (aCons (eVar 0) aNil))) (sRet (eTup (aCons (eC (.str [110, 97, 109, 101])) (aCons (eVar 0) aNil)))) sNext)
    (sSeq (sIf (tAnd (tOf (eBM isS (m0B Txt.isdigit) (eVar 0) aNil)) (tAnd (tOf (eBin kLe (eCall (o1 lenO) (aCons (eVar 0) aNil)) (eC (.int 12)))) (tOr (tOf (eBin kEq (eVar 0) (eC (.str [48])))) (tOf (eBin kNe (eBin kIx (eVar 0) (eC (.int 0))) (eC (.str [48]))))))) (sRet (eTup (aCons (eC (.str [110, 117, 109, 98, 101, 114])) (aCons (eCall (o1 intTO) (aCons (eVar 0) aNil)) aNil)))) sNext)
    (sRet (eC .non)))))
noncomputable def F_run_word : FN := mkFn 1 1 b_run_word
theorem fact_run_word (T : Txt K w mg cad) : FnFact P w K mg base cad "run_word" 3 [] F_run_word := by
  obtain ⟨tk_MOST_SIGNS, c_MOST_SIGNS⟩ := T.c_MOST_SIGNS
  exact fn_fact (k := 2) (N := N_run_word) T.f_run_word sc_run_word fun fa cdv A outer s H E hr => by
    have hu := hr.units
    exact
      (iss_cons (is_if (it_of (ie_call (fact_is_told T) (hr.mono (by decide)) rfl (ia_cons (ie_var (pv 0)) ia_nil))) (iss_one (is_ret (ie_tup (ia_cons (ie_str (by decide +kernel)) (ia_cons (ie_var (pv 0)) ia_nil))))) iss_nil)
      (iss_cons (is_if (it_of (ie_call (fact_is_name T) (hr.mono (by decide)) rfl (ia_cons (ie_var (pv 0)) ia_nil))) (iss_one (is_ret (ie_tup (ia_cons (ie_str (by decide +kernel)) (ia_cons (ie_var (pv 0)) ia_nil))))) iss_nil)
      (iss_cons (is_if (it_bool (iw_and (it_of (ie_isdigit (ie_var (pv 0)))) (iw_and (it_cmp cm_le (ie_len rfl T.b_len (ia_cons (ie_var (pv 0)) ia_nil)) (ie_gint rfl c_MOST_SIGNS) (nomark _) bl_ord) (iw_and1 (it_bool (iw_or (it_cmp (cm_eq hu) (ie_var (pv 0)) (ie_str (by decide +kernel)) (nomark _) bl_eq) (iw_or1 (it_cmp (cm_ne hu) (ie_ix hu (ie_var (pv 0)) ie_int (fun _ _ => rfl)) (ie_str (by decide +kernel)) (nomark _) bl_ne)))))))) (iss_one (is_ret (ie_tup (ia_cons (ie_str (by decide +kernel)) (ia_cons (ie_toIntT rfl T.b_int (ia_cons (ie_var (pv 0)) ia_nil)) ia_nil))))) iss_nil)
      (iss_one (is_ret ie_non)))))
noncomputable def b_text_at : MS :=
    (sSeq (sSet 2 (eBM isS find3M (eVar 0) (aCons (eC (.str [34])) (aCons (eBin opAdd (eVar 1) (eC (.int 1))) aNil))))
    (sSeq (sIf (tOr (tOf (eBin kLt (eVar 2) (eC (.int 0)))) (tOf (eBin kGt (eBin opSub (eBin opSub (eVar 2) (eVar 1)) (eC (.int 1))) (eC (.int 40))))) (sRet (eC .non)) sNext)
    (sRet (eTup (aCons (eC (.str [116, 101, 120, 116])) (aCons (eSl (eVar 0) (oSome (eBin opAdd (eVar 1) (eC (.int 1)))) (oSome (eVar 2))) aNil))))))
noncomputable def F_text_at : FN := mkFn 3 2 b_text_at
theorem fact_text_at (T : Txt K w mg cad) : FnFact P w K mg base cad "text_at" 1 [] F_text_at := by
  obtain ⟨tk_MOST_TEXT, c_MOST_TEXT⟩ := T.c_MOST_TEXT
  exact fn_fact (k := 0) (N := N_text_at) T.f_text_at sc_text_at fun fa cdv A outer s H E hr => by
    have hu := hr.units
    exact
      (iss_cons (is_set (i := 2) sc_text_at.nd rfl (by first | exact Or.inl rfl | exact Or.inr rfl) (ie_find3 (ie_var (pv 0)) (ia_cons (ie_str (by decide +kernel)) (ia_cons (ie_add (ie_var (pv 1)) ie_int) ia_nil))))
      (iss_cons (is_if (it_bool (iw_or (it_cmp cm_lt (ie_var (pv 2)) ie_int (nomark _) bl_ord) (iw_or1 (it_cmp cm_gt (ie_sub (ie_sub (ie_var (pv 2)) (ie_var (pv 1))) ie_int) (ie_gint rfl c_MOST_TEXT) (nomark _) bl_ord)))) (iss_one (is_ret ie_non)) iss_nil)
      (iss_one (is_ret (ie_tup (ia_cons (ie_str (by decide +kernel)) (ia_cons (ie_sl (ie_var (pv 0)) (io_some (ie_add (ie_var (pv 1)) ie_int)) (io_some (ie_var (pv 2)))) ia_nil)))))))
noncomputable def b_mark_at : MS :=
    (sSeq (sIf (tOf (eBin (kIn false) (eSl (eVar 0) (oSome (eVar 1)) (oSome (eBin opAdd (eVar 1) (eC (.int 2))))) (eC (.tup [.str [47, 47], .str [60, 61], .str [62, 61], .str [61, 61], .str [33, 61], .str [43, 61], .str [45, 61], .str [42, 61]])))) (sRet (eTup (aCons (eC (.str [109, 97, 114, 107])) (aCons (eSl (eVar 0) (oSome (eVar 1)) (oSome (eBin opAdd (eVar 1) (eC (.int 2))))) aNil)))) sNext)
    (sSeq (sIf (tOf (eBin (kIn false) (eBin kIx (eVar 0) (eVar 1)) (eC (.str [43, 45, 42, 38, 124, 60, 62, 61, 40, 41, 44, 46, 58])))) (sRet (eTup (aCons (eC (.str [109, 97, 114, 107])) (aCons (eBin kIx (eVar 0) (eVar 1)) aNil)))) sNext)
    (sRet (eC .non))))
noncomputable def F_mark_at : FN := mkFn 2 2 b_mark_at
theorem fact_mark_at (T : Txt K w mg cad) : FnFact P w K mg base cad "mark_at" 1 [] F_mark_at := by
  obtain ⟨tk_SHORT_MARKS, c_SHORT_MARKS⟩ := T.c_SHORT_MARKS
  exact fn_fact (k := 0) (N := N_mark_at) T.f_mark_at sc_mark_at fun fa cdv A outer s H E hr => by
    have hu := hr.units
    exact
      (iss_cons (is_if (it_cmp (cm_in hu) (ie_sl (ie_var (pv 0)) (io_some (ie_var (pv 1))) (io_some (ie_add (ie_var (pv 1)) ie_int))) (ie_gtup T.c_LONG_MARKS rfl) (by rfl) bl_in) (iss_one (is_ret (ie_tup (ia_cons (ie_str (by decide +kernel)) (ia_cons (ie_sl (ie_var (pv 0)) (io_some (ie_var (pv 1))) (io_some (ie_add (ie_var (pv 1)) ie_int))) ia_nil))))) iss_nil)
      (iss_cons (is_if (it_cmp (cm_in hu) (ie_ix hu (ie_var (pv 0)) (ie_var (pv 1)) (fun _ _ => rfl)) (ie_gstr rfl c_SHORT_MARKS (by decide +kernel)) (by rfl) bl_in) (iss_one (is_ret (ie_tup (ia_cons (ie_str (by decide +kernel)) (ia_cons (ie_ix hu (ie_var (pv 0)) (ie_var (pv 1)) (fun _ _ => rfl)) ia_nil))))) iss_nil)
      (iss_one (is_ret ie_non))))
noncomputable def b_word_at : MS :=
    (sSeq (sSet 2 (eCall F_run_at (aCons (eVar 0) (aCons (eVar 1) aNil))))
    (sSeq (sIf (tOf (eBin kNe (eVar 2) (eC (.str [])))) (sSeq (sSet 3 (eCall F_run_word (aCons (eVar 2) aNil)))
    (sSet 4 (eCall (o1 lenO) (aCons (eVar 2) aNil)))) (sIf (tOf (eBin kEq (eBin kIx (eVar 0) (eVar 1)) (eC (.str [34])))) (sSeq (sSet 3 (eCall F_text_at (aCons (eVar 0) (aCons (eVar 1) aNil))))
    (sSeq (sSet 4 (eC (.int 0)))
    (sIf (tOf (eBin kIsNot (eVar 3) (eC .non))) (sSet 4 (eBin opAdd (eCall (o1 lenO) (aCons (eBin kIx (eVar 3) (eC (.int 1))) aNil)) (eC (.int 2)))) sNext))) (sSeq (sSet 3 (eCall F_mark_at (aCons (eVar 0) (aCons (eVar 1) aNil))))
    (sSeq (sSet 4 (eC (.int 0)))
    (sIf (tOf (eBin kIsNot (eVar 3) (eC .non))) (sSet 4 (eCall (o1 lenO) (aCons (eBin kIx (eVar 3) (eC (.int 1))) aNil))) sNext)))))
    (sSeq (sIf (tOf (eBin kIs (eVar 3) (eC .non))) (sRet (eC .non)) sNext)
    (sRet (eTup (aCons (eVar 3) (aCons (eBin opAdd (eVar 1) (eVar 4)) aNil)))))))
noncomputable def F_word_at : FN := mkFn 5 2 b_word_at
theorem fact_word_at (T : Txt K w mg cad) : FnFact P w K mg base cad "word_at" 4 [] F_word_at := by
  exact fn_fact (k := 3) (N := N_word_at) T.f_word_at sc_word_at fun fa cdv A outer s H E hr => by
    have hu := hr.units
    exact
      (iss_cons (is_set (i := 2) sc_word_at.nd rfl (by first | exact Or.inl rfl | exact Or.inr rfl) (ie_call (fact_run_at T) (hr.mono (by decide)) rfl (ia_cons (ie_var (pv 0)) (ia_cons (ie_var (pv 1)) ia_nil))))
      (iss_cons (is_if (it_cmp (cm_ne hu) (ie_var (pv 2)) (ie_str (by decide +kernel)) (nomark _) bl_ne) (iss_cons (is_set (i := 3) sc_word_at.nd rfl (by first | exact Or.inl rfl | exact Or.inr rfl) (ie_call (fact_run_word T) (hr.mono (by decide)) rfl (ia_cons (ie_var (pv 2)) ia_nil)))
      (iss_one (is_set (i := 4) sc_word_at.nd rfl (by first | exact Or.inl rfl | exact Or.inr rfl) (ie_len rfl T.b_len (ia_cons (ie_var (pv 2)) ia_nil))))) (iss_one (is_if (it_cmp (cm_eq hu) (ie_ix hu (ie_var (pv 0)) (ie_var (pv 1)) (fun _ _ => rfl)) (ie_str (by decide +kernel)) (nomark _) bl_eq) (iss_cons (is_set (i := 3) sc_word_at.nd rfl (by first | exact Or.inl rfl | exact Or.inr rfl) (ie_call (fact_text_at T) (hr.mono (by decide)) rfl (ia_cons (ie_var (pv 0)) (ia_cons (ie_var (pv 1)) ia_nil))))
      (iss_cons (is_set (i := 4) sc_word_at.nd rfl (by first | exact Or.inl rfl | exact Or.inr rfl) ie_int)
      (iss_one (is_if (it_cmp cm_isnot (ie_var (pv 3)) ie_non (nomark _) bl_isnot) (iss_one (is_set (i := 4) sc_word_at.nd rfl (by first | exact Or.inl rfl | exact Or.inr rfl) (ie_add (ie_len rfl T.b_len (ia_cons (ie_ix hu (ie_var (pv 3)) ie_int (fun _ _ => rfl)) ia_nil)) ie_int))) iss_nil)))) (iss_cons (is_set (i := 3) sc_word_at.nd rfl (by first | exact Or.inl rfl | exact Or.inr rfl) (ie_call (fact_mark_at T) (hr.mono (by decide)) rfl (ia_cons (ie_var (pv 0)) (ia_cons (ie_var (pv 1)) ia_nil))))
      (iss_cons (is_set (i := 4) sc_word_at.nd rfl (by first | exact Or.inl rfl | exact Or.inr rfl) ie_int)
      (iss_one (is_if (it_cmp cm_isnot (ie_var (pv 3)) ie_non (nomark _) bl_isnot) (iss_one (is_set (i := 4) sc_word_at.nd rfl (by first | exact Or.inl rfl | exact Or.inr rfl) (ie_len rfl T.b_len (ia_cons (ie_ix hu (ie_var (pv 3)) ie_int (fun _ _ => rfl)) ia_nil)))) iss_nil)))))))
      (iss_cons (is_if (it_cmp cm_is (ie_var (pv 3)) ie_non (nomark _) bl_is) (iss_one (is_ret ie_non)) iss_nil)
      (iss_one (is_ret (ie_tup (ia_cons (ie_var (pv 3)) (ia_cons (ie_add (ie_var (pv 1)) (ie_var (pv 4))) ia_nil))))))))
noncomputable def tW_words_of_1 : MT :=
    (tAnd (tOf (eBin kLt (eVar 2) (eCall (o1 lenO) (aCons (eVar 0) aNil)))) (tOf (eBin kNe (eBin kIx (eVar 0) (eVar 2)) (eC (.str [35])))))
noncomputable def uW_words_of_2 : MS :=
    (sIf (tOf (eBin kEq (eBin kIx (eVar 0) (eVar 2)) (eC (.str [32])))) (sSet 2 (eBin opAdd (eVar 2) (eC (.int 1)))) (sSeq (sSet 3 (eCall F_word_at (aCons (eVar 0) (aCons (eVar 2) aNil))))
    (sSeq (sIf (tOf (eBin kIs (eVar 3) (eC .non))) (sRet (eC .non)) sNext)
    (sSeq (sExpr (eBM isL appM (eVar 1) (aCons (eBin kIx (eVar 3) (eC (.int 0))) aNil)))
    (sSet 2 (eBin kIx (eVar 3) (eC (.int 1))))))))
noncomputable def b_words_of : MS :=
    (sSeq (sSet 1 (eLst aNil))
    (sSeq (sSet 2 (eC (.int 0)))
    (sSeq (sWhile tW_words_of_1 uW_words_of_2)
    (sRet (eVar 1)))))
noncomputable def F_words_of : FN := mkFn 4 1 b_words_of
theorem fact_words_of (T : Txt K w mg cad) : FnFact P w K mg base cad "words_of" 5 [] F_words_of := by
  exact fn_fact (k := 4) (N := N_words_of) T.f_words_of sc_words_of fun fa cdv A outer s H E hr => by
    have hu := hr.units
    exact
      (iss_cons (is_set (i := 1) sc_words_of.nd rfl (by first | exact Or.inl rfl | exact Or.inr rfl) (ie_lst ia_nil))
      (iss_cons (is_set (i := 2) sc_words_of.nd rfl (by first | exact Or.inl rfl | exact Or.inr rfl) ie_int)
      (iss_cons (is_while PassesOwn.never (it_bool (iw_and (it_cmp cm_lt (ie_var (pv 2)) (ie_len rfl T.b_len (ia_cons (ie_var (pv 0)) ia_nil)) (nomark _) bl_ord) (iw_and1 (it_cmp (cm_ne hu) (ie_ix hu (ie_var (pv 0)) (ie_var (pv 2)) (fun _ _ => rfl)) (ie_str (by decide +kernel)) (nomark _) bl_ne)))) (iss_one (is_if (it_cmp (cm_eq hu) (ie_ix hu (ie_var (pv 0)) (ie_var (pv 2)) (fun _ _ => rfl)) (ie_str (by decide +kernel)) (nomark _) bl_eq) (iss_one (is_set (i := 2) sc_words_of.nd rfl (by first | exact Or.inl rfl | exact Or.inr rfl) (ie_add (ie_var (pv 2)) ie_int))) (iss_cons (is_set (i := 3) sc_words_of.nd rfl (by first | exact Or.inl rfl | exact Or.inr rfl) (ie_call (fact_word_at T) (hr.mono (by decide)) rfl (ia_cons (ie_var (pv 0)) (ia_cons (ie_var (pv 2)) ia_nil))))
      (iss_cons (is_if (it_cmp cm_is (ie_var (pv 3)) ie_non (nomark _) bl_is) (iss_one (is_ret ie_non)) iss_nil)
      (iss_cons (is_expr (ie_append (ie_var (pv 1)) (ia_cons (ie_ix hu (ie_var (pv 3)) ie_int (fun _ _ => rfl)) ia_nil)))
      (iss_one (is_set (i := 2) sc_words_of.nd rfl (by first | exact Or.inl rfl | exact Or.inr rfl) (ie_ix hu (ie_var (pv 3)) ie_int (fun _ _ => rfl))))))))))
      (iss_one (is_ret (ie_var (pv 1)))))))
noncomputable def b_indent_of : MS :=
    (sSeq (sSet 1 (eBin opSub (eCall (o1 lenO) (aCons (eVar 0) aNil)) (eCall (o1 lenO) (aCons (eBM isS lstripM (eVar 0) (aCons (eC (.str [32])) aNil)) aNil))))
    (sSeq (sAsg (eCall divmodF (aCons (eVar 1) (aCons (eC (.int 4)) aNil))) (mTup 2 (mCons (mName 2) (mCons (mName 3) mNil))))
    (sSeq (sIf (tOr (tOf (eBin kGt (eVar 3) (eC (.int 0)))) (tOf (eBin kGt (eVar 2) (eC (.int 12))))) (sRet (eC .non)) sNext)
    (sRet (eVar 2)))))
noncomputable def F_indent_of : FN := mkFn 4 1 b_indent_of
theorem fact_indent_of (T : Txt K w mg cad) : FnFact P w K mg base cad "indent_of" 1 [] F_indent_of := by
  obtain ⟨tk_MOST_BLOCKS, c_MOST_BLOCKS⟩ := T.c_MOST_BLOCKS
  obtain ⟨tk_STEP, c_STEP⟩ := T.c_STEP
  exact fn_fact (k := 0) (N := N_indent_of) T.f_indent_of sc_indent_of fun fa cdv A outer s H E hr => by
    have hu := hr.units
    exact
      (iss_cons (is_set (i := 1) sc_indent_of.nd rfl (by first | exact Or.inl rfl | exact Or.inr rfl) (ie_sub (ie_len rfl T.b_len (ia_cons (ie_var (pv 0)) ia_nil)) (ie_len rfl T.b_len (ia_cons (ie_lstrip (ie_var (pv 0)) (ia_cons (ie_str (by decide +kernel)) ia_nil)) ia_nil))))
      (iss_cons (is_asg (ie_divmod rfl T.b_divmod (ia_cons (ie_var (pv 1)) (ia_cons (ie_gint rfl c_STEP) ia_nil))) (ig_tup (n := 2) rfl (igs_cons (ig_name (i := 2) sc_indent_of.nd rfl (by first | exact Or.inl rfl | exact Or.inr rfl)) (igs_cons (ig_name (i := 3) sc_indent_of.nd rfl (by first | exact Or.inl rfl | exact Or.inr rfl)) igs_nil))))
      (iss_cons (is_if (it_bool (iw_or (it_cmp cm_gt (ie_var (pv 3)) ie_int (nomark _) bl_ord) (iw_or1 (it_cmp cm_gt (ie_var (pv 2)) (ie_gint rfl c_MOST_BLOCKS) (nomark _) bl_ord)))) (iss_one (is_ret ie_non)) iss_nil)
      (iss_one (is_ret (ie_var (pv 2)))))))
noncomputable def uF_rows_of_1 : MS :=
    (sSeq (sSet 4 (eCall F_words_of (aCons (eVar 3) aNil)))
    (sIf (tOf (eBin kNe (eVar 4) (eLst aNil))) (sExpr (eBM isL appM (eVar 1) (aCons (eTup (aCons (eVar 2) (aCons (eCall F_indent_of (aCons (eVar 3) aNil)) (aCons (eVar 4) aNil)))) aNil))) sNext))
noncomputable def b_rows_of : MS :=
    (sSeq (sSet 1 (eLst aNil))
    (sSeq (sFor (iEn (aCons (eBM isS splitM (eVar 0) (aCons (eC (.str [10])) aNil)) aNil)) (mTup 2 (mCons (mName 2) (mCons (mName 3) mNil))) uF_rows_of_1)
    (sRet (eVar 1))))
noncomputable def F_rows_of : FN := mkFn 5 1 b_rows_of
theorem fact_rows_of (T : Txt K w mg cad) : FnFact P w K mg base cad "rows_of" 6 [] F_rows_of := by
  exact fn_fact (k := 5) (N := N_rows_of) T.f_rows_of sc_rows_of fun fa cdv A outer s H E hr => by
    have hu := hr.units
    exact
      (iss_cons (is_set (i := 1) sc_rows_of.nd rfl (by first | exact Or.inl rfl | exact Or.inr rfl) (ie_lst ia_nil))
      (iss_cons (is_for PassesOwn.never rfl (ii_enum rfl T.b_enumerate (ia_cons (ie_split (ie_var (pv 0)) (ia_cons (ie_str (by decide +kernel)) ia_nil)) ia_nil)) (ig_tup (n := 2) rfl (igs_cons (ig_name (i := 2) sc_rows_of.nd rfl (by first | exact Or.inl rfl | exact Or.inr rfl)) (igs_cons (ig_name (i := 3) sc_rows_of.nd rfl (by first | exact Or.inl rfl | exact Or.inr rfl)) igs_nil))) (iss_cons (is_set (i := 4) sc_rows_of.nd rfl (by first | exact Or.inl rfl | exact Or.inr rfl) (ie_call (fact_words_of T) (hr.mono (by decide)) rfl (ia_cons (ie_var (pv 3)) ia_nil)))
      (iss_one (is_if (it_cmp (cm_ne hu) (ie_var (pv 4)) (ie_lst ia_nil) (nomark _) bl_ne) (iss_one (is_expr (ie_append (ie_var (pv 1)) (ia_cons (ie_tup (ia_cons (ie_var (pv 2)) (ia_cons (ie_call (fact_indent_of T) (hr.mono (by decide)) rfl (ia_cons (ie_var (pv 3)) ia_nil)) (ia_cons (ie_var (pv 4)) ia_nil)))) ia_nil)))) iss_nil))))
      (iss_one (is_ret (ie_var (pv 1))))))
noncomputable def b_l_cell_at : MS :=
    (sSeq (sIf (tOf (eBin kLt (eVar 1) (eCall (o1 lenO) (aCons (eVar 0) aNil)))) (sRet (eBin kIx (eVar 0) (eVar 1))) sNext)
    (sRet (eC (.int 0))))
noncomputable def F_l_cell_at : FN := mkFn 2 2 b_l_cell_at
theorem fact_l_cell_at (T : Txt K w mg cad) : FnFact P w K mg base cad "_law_cell_at" 1 [] F_l_cell_at := by
  exact fn_fact (k := 0) (N := N_l_cell_at) T.f_l_cell_at sc_l_cell_at fun fa cdv A outer s H E hr => by
    have hu := hr.units
    exact
      (iss_cons (is_if (it_cmp cm_lt (ie_var (pv 1)) (ie_len rfl T.b_len (ia_cons (ie_var (pv 0)) ia_nil)) (nomark _) bl_ord) (iss_one (is_ret (ie_ix hu (ie_var (pv 0)) (ie_var (pv 1)) (fun _ _ => rfl)))) iss_nil)
      (iss_one (is_ret ie_int)))
noncomputable def b_l_mixed : MS :=
    (sSeq (sSet 2 (eBin opMod (eBin opMul (eBin opAdd (eBin opAdd (eBin opMod (eVar 0) (eC (.int 1000000007))) (eBin opMul (eBin opMul (eC (.int 31)) (eVar 1)) (eVar 1))) (eC (.int 7))) (eC (.int 48271))) (eC (.int 2147483647))))
    (sRet (eBin opDiv (eBin opMod (eBin opMul (eVar 2) (eBin opAdd (eC (.int 16807)) (eBin opMul (eC (.int 7919)) (eVar 1)))) (eC (.int 2147483629))) (eC (.int 7)))))
noncomputable def F_l_mixed : FN := mkFn 3 2 b_l_mixed
theorem fact_l_mixed (T : Txt K w mg cad) : FnFact P w K mg base cad "_law_mixed" 1 [] F_l_mixed := by
  exact fn_fact (k := 0) (N := N_l_mixed) T.f_l_mixed sc_l_mixed fun fa cdv A outer s H E hr => by
    have hu := hr.units
    exact
      (iss_cons (is_set (i := 2) sc_l_mixed.nd rfl (by first | exact Or.inl rfl | exact Or.inr rfl) (ie_mod (ie_mul (ie_add (ie_add (ie_mod (ie_var (pv 0)) ie_int) (ie_mul (ie_mul ie_int (ie_var (pv 1))) (ie_var (pv 1)))) ie_int) ie_int) ie_int))
      (iss_one (is_ret (ie_div (ie_mod (ie_mul (ie_var (pv 2)) (ie_add ie_int (ie_mul ie_int (ie_var (pv 1))))) ie_int) ie_int))))
noncomputable def b_l_signs : MS :=
    (sSeq (sSet 0 (eC (.str [32, 33, 34, 35, 36, 38, 39, 40, 41, 42, 43, 44, 45, 46, 47, 48, 49, 50, 51, 52, 53, 54, 55, 56, 57, 58, 59, 60, 61, 62, 63, 64, 65, 66, 67, 68, 69, 70, 71, 72, 73, 74, 75, 76, 77, 78, 79, 80, 81, 82, 83, 84, 85, 86, 87, 88, 89, 90, 91, 92, 93, 94, 95, 96])))
    (sRet (eBin opAdd (eVar 0) (eC (.str [97, 98, 99, 100, 101, 102, 103, 104, 105, 106, 107, 108, 109, 110, 111, 112, 113, 114, 115, 116, 117, 118, 119, 120, 121, 122, 123, 124, 125, 126])))))
noncomputable def F_l_signs : FN := mkFn 1 0 b_l_signs
theorem fact_l_signs (T : Txt K w mg cad) : FnFact P w K mg base cad "_law_signs" 1 [] F_l_signs := by
  exact fn_fact (k := 0) (N := N_l_signs) T.f_l_signs sc_l_signs fun fa cdv A outer s H E hr => by
    have hu := hr.units
    exact
      (iss_cons (is_set (i := 0) sc_l_signs.nd rfl (by first | exact Or.inl rfl | exact Or.inr rfl) (ie_str (by decide +kernel)))
      (iss_one (is_ret (ie_add (ie_var (pv 0)) (ie_str (by decide +kernel))))))
noncomputable def b_l_told : MS :=
    (sSeq (sSet 0 (eC (.str [97, 110, 100, 32, 97, 115, 32, 98, 114, 101, 97, 107, 32, 99, 108, 97, 115, 115, 32, 99, 111, 110, 116, 105, 110, 117, 101, 32, 100, 101, 102, 32, 101, 108, 105, 102, 32, 101, 108, 115, 101, 32, 101, 120, 99, 101, 112, 116, 32, 70, 97, 108, 115, 101, 32, 102, 105, 110, 97, 108, 108, 121, 32, 102, 111, 114, 32, 102, 114, 111, 109, 32, 103, 108, 111, 98, 97, 108, 32, 105, 102, 32, 105, 110, 32, 78, 111, 110, 101])))
    (sRet (eBM isS splitM (eBin opAdd (eVar 0) (eC (.str [32, 110, 111, 110, 108, 111, 99, 97, 108, 32, 110, 111, 116, 32, 111, 114, 32, 112, 97, 115, 115, 32, 114, 97, 105, 115, 101, 32, 114, 101, 116, 117, 114, 110, 32, 84, 114, 117, 101, 32, 116, 114, 121, 32, 119, 104, 105, 108, 101, 32, 121, 105, 101, 108, 100]))) (aCons (eC (.str [32])) aNil))))
noncomputable def F_l_told : FN := mkFn 1 0 b_l_told
theorem fact_l_told (T : Txt K w mg cad) : FnFact P w K mg base cad "_law_told" 1 [] F_l_told := by
  exact fn_fact (k := 0) (N := N_l_told) T.f_l_told sc_l_told fun fa cdv A outer s H E hr => by
    have hu := hr.units
    exact
      (iss_cons (is_set (i := 0) sc_l_told.nd rfl (by first | exact Or.inl rfl | exact Or.inr rfl) (ie_str (by decide +kernel)))
      (iss_one (is_ret (ie_split (ie_add (ie_var (pv 0)) (ie_str (by decide +kernel))) (ia_cons (ie_str (by decide +kernel)) ia_nil)))))
noncomputable def b_l_run : MS :=
    (sSeq (sIf (tOf (eBin (kIn false) (eVar 0) (eCall F_l_told aNil))) (sRet (eTup (aCons (eC (.str [116, 111, 108, 100])) (aCons (eVar 0) aNil)))) sNext)
    (sSeq (sIf (tOf (eBin (kIn false) (eBin kIx (eVar 0) (eC (.int 0))) (eC (.str [48, 49, 50, 51, 52, 53, 54, 55, 56, 57])))) (sSeq (sIf (tOr (tNot (tOf (eBM isS (m0B Txt.isdigit) (eVar 0) aNil))) (tOr (tOf (eBin kGt (eCall (o1 lenO) (aCons (eVar 0) aNil)) (eC (.int 12)))) (tAnd (tOf (eBin kEq (eBin kIx (eVar 0) (eC (.int 0))) (eC (.str [48])))) (tOf (eBin kNe (eVar 0) (eC (.str [48]))))))) (sRet (eC .non)) sNext)
    (sRet (eTup (aCons (eC (.str [110, 117, 109, 98, 101, 114])) (aCons (eCall (o1 intTO) (aCons (eVar 0) aNil)) aNil))))) sNext)
    (sSeq (sIf (tOr (tOf (eBin kEq (eBin kIx (eVar 0) (eC (.int 0))) (eC (.str [95])))) (tOf (eBin kGt (eCall (o1 lenO) (aCons (eVar 0) aNil)) (eC (.int 12))))) (sRet (eC .non)) sNext)
    (sRet (eTup (aCons (eC (.str [110, 97, 109, 101])) (aCons (eVar 0) aNil)))))))
noncomputable def F_l_run : FN := mkFn 1 1 b_l_run
theorem fact_l_run (T : Txt K w mg cad) : FnFact P w K mg base cad "_law_run" 2 [] F_l_run := by
  exact fn_fact (k := 1) (N := N_l_run) T.f_l_run sc_l_run fun fa cdv A outer s H E hr => by
    have hu := hr.units
    exact
      (iss_cons (is_if (it_cmp (cm_in hu) (ie_var (pv 0)) (ie_call0 (fact_l_told T) (hr.mono (by decide)) rfl) (by rfl) bl_in) (iss_one (is_ret (ie_tup (ia_cons (ie_str (by decide +kernel)) (ia_cons (ie_var (pv 0)) ia_nil))))) iss_nil)
      (iss_cons (is_if (it_cmp (cm_in hu) (ie_ix hu (ie_var (pv 0)) ie_int (fun _ _ => rfl)) (ie_str (by decide +kernel)) (by rfl) bl_in) (iss_cons (is_if (it_bool (iw_or (it_not (it_of (ie_isdigit (ie_var (pv 0))))) (iw_or (it_cmp cm_gt (ie_len rfl T.b_len (ia_cons (ie_var (pv 0)) ia_nil)) ie_int (nomark _) bl_ord) (iw_or1 (it_bool (iw_and (it_cmp (cm_eq hu) (ie_ix hu (ie_var (pv 0)) ie_int (fun _ _ => rfl)) (ie_str (by decide +kernel)) (nomark _) bl_eq) (iw_and1 (it_cmp (cm_ne hu) (ie_var (pv 0)) (ie_str (by decide +kernel)) (nomark _) bl_ne)))))))) (iss_one (is_ret ie_non)) iss_nil)
      (iss_one (is_ret (ie_tup (ia_cons (ie_str (by decide +kernel)) (ia_cons (ie_toIntT rfl T.b_int (ia_cons (ie_var (pv 0)) ia_nil)) ia_nil)))))) iss_nil)
      (iss_cons (is_if (it_bool (iw_or (it_cmp (cm_eq hu) (ie_ix hu (ie_var (pv 0)) ie_int (fun _ _ => rfl)) (ie_str (by decide +kernel)) (nomark _) bl_eq) (iw_or1 (it_cmp cm_gt (ie_len rfl T.b_len (ia_cons (ie_var (pv 0)) ia_nil)) ie_int (nomark _) bl_ord)))) (iss_one (is_ret ie_non)) iss_nil)
      (iss_one (is_ret (ie_tup (ia_cons (ie_str (by decide +kernel)) (ia_cons (ie_var (pv 0)) ia_nil))))))))
noncomputable def tW_l_words_1 : MT :=
    (tAnd (tOf (eBin kLt (eVar 3) (eCall (o1 lenO) (aCons (eVar 2) aNil)))) (tOr (tOf (eBM isS (m0B Txt.isalnum) (eBin kIx (eVar 2) (eVar 3)) aNil)) (tOf (eBin kEq (eBin kIx (eVar 2) (eVar 3)) (eC (.str [95]))))))
noncomputable def uW_l_words_2 : MS :=
    (sSet 3 (eBin opAdd (eVar 3) (eC (.int 1))))
noncomputable def tW_l_words_3 : MT :=
    (tAnd (tOf (eBin kNe (eVar 2) (eC (.str [])))) (tOf (eBin kNe (eBin kIx (eVar 2) (eC (.int 0))) (eC (.str [35])))))
noncomputable def uW_l_words_4 : MS :=
    (sSeq (sSet 3 (eC (.int 0)))
    (sSeq (sWhile tW_l_words_1 uW_l_words_2)
    (sSeq (sSet 4 (eC .non))
    (sSeq (sIf (tOf (eBin kEq (eBin kIx (eVar 2) (eC (.int 0))) (eC (.str [32])))) (sSeq (sSet 2 (eSl (eVar 2) (oSome (eC (.int 1))) oNone))
    sCont) sNext)
    (sSeq (sIf (tOf (eBin kGt (eVar 3) (eC (.int 0)))) (sSet 4 (eCall F_l_run (aCons (eSl (eVar 2) oNone (oSome (eVar 3))) aNil))) (sIf (tOf (eBin kEq (eBin kIx (eVar 2) (eC (.int 0))) (eC (.str [34])))) (sSeq (sAsg (eBM isS partM (eSl (eVar 2) (oSome (eC (.int 1))) oNone) (aCons (eC (.str [34])) aNil)) (mTup 3 (mCons (mName 5) (mCons (mName 6) (mCons (mName 7) mNil)))))
    (sSeq (sSet 3 (eBin opAdd (eCall (o1 lenO) (aCons (eVar 5) aNil)) (eC (.int 2))))
    (sIf (tAnd (tOf (eBin kNe (eVar 6) (eC (.str [])))) (tOf (eBin kLt (eCall (o1 lenO) (aCons (eVar 5) aNil)) (eC (.int 41))))) (sSet 4 (eTup (aCons (eC (.str [116, 101, 120, 116])) (aCons (eVar 5) aNil)))) sNext))) (sSeq (sSet 3 (eBin opAdd (eC (.int 1)) (eCall (o1 intO) (aCons (eBin (kIn false) (eSl (eVar 2) oNone (oSome (eC (.int 2)))) (eTup (aCons (eC (.str [47, 47])) (aCons (eC (.str [60, 61])) (aCons (eC (.str [62, 61])) (aCons (eC (.str [61, 61])) (aCons (eC (.str [33, 61])) (aCons (eC (.str [43, 61])) (aCons (eC (.str [45, 61])) (aCons (eC (.str [42, 61])) aNil)))))))))) aNil))))
    (sIf (tOr (tOf (eBin kEq (eVar 3) (eC (.int 2)))) (tOf (eBin (kIn false) (eBin kIx (eVar 2) (eC (.int 0))) (eC (.str [43, 45, 42, 38, 124, 60, 62, 61, 40, 41, 44, 46, 58]))))) (sSet 4 (eTup (aCons (eC (.str [109, 97, 114, 107])) (aCons (eSl (eVar 2) oNone (oSome (eVar 3))) aNil)))) sNext))))
    (sSeq (sIf (tOf (eBin kIs (eVar 4) (eC .non))) (sRet (eC .non)) sNext)
    (sSeq (sExpr (eBM isL appM (eVar 1) (aCons (eVar 4) aNil)))
    (sSet 2 (eSl (eVar 2) (oSome (eVar 3)) oNone)))))))))
noncomputable def b_l_words : MS :=
    (sSeq (sSet 1 (eLst aNil))
    (sSeq (sSet 2 (eVar 0))
    (sSeq (sWhile tW_l_words_3 uW_l_words_4)
    (sRet (eVar 1)))))
noncomputable def F_l_words : FN := mkFn 8 1 b_l_words
theorem fact_l_words (T : Txt K w mg cad) : FnFact P w K mg base cad "_law_words" 3 [] F_l_words := by
  exact fn_fact (k := 2) (N := N_l_words) T.f_l_words sc_l_words fun fa cdv A outer s H E hr => by
    have hu := hr.units
    exact
      (iss_cons (is_set (i := 1) sc_l_words.nd rfl (by first | exact Or.inl rfl | exact Or.inr rfl) (ie_lst ia_nil))
      (iss_cons (is_set (i := 2) sc_l_words.nd rfl (by first | exact Or.inl rfl | exact Or.inr rfl) (ie_var (pv 0)))
      (iss_cons (is_while PassesOwn.never (it_bool (iw_and (it_cmp (cm_ne hu) (ie_var (pv 2)) (ie_str (by decide +kernel)) (nomark _) bl_ne) (iw_and1 (it_cmp (cm_ne hu) (ie_ix hu (ie_var (pv 2)) ie_int (fun _ _ => rfl)) (ie_str (by decide +kernel)) (nomark _) bl_ne)))) (iss_cons (is_set (i := 3) sc_l_words.nd rfl (by first | exact Or.inl rfl | exact Or.inr rfl) ie_int)
      (iss_cons (is_while PassesOwn.never (it_bool (iw_and (it_cmp cm_lt (ie_var (pv 3)) (ie_len rfl T.b_len (ia_cons (ie_var (pv 2)) ia_nil)) (nomark _) bl_ord) (iw_and1 (it_bool (iw_or (it_of (ie_isalnum (ie_ix hu (ie_var (pv 2)) (ie_var (pv 3)) (fun _ _ => rfl)))) (iw_or1 (it_cmp (cm_eq hu) (ie_ix hu (ie_var (pv 2)) (ie_var (pv 3)) (fun _ _ => rfl)) (ie_str (by decide +kernel)) (nomark _) bl_eq))))))) (iss_one (is_set (i := 3) sc_l_words.nd rfl (by first | exact Or.inl rfl | exact Or.inr rfl) (ie_add (ie_var (pv 3)) ie_int))))
      (iss_cons (is_set (i := 4) sc_l_words.nd rfl (by first | exact Or.inl rfl | exact Or.inr rfl) ie_non)
      (iss_cons (is_if (it_cmp (cm_eq hu) (ie_ix hu (ie_var (pv 2)) ie_int (fun _ _ => rfl)) (ie_str (by decide +kernel)) (nomark _) bl_eq) (iss_cons (is_set (i := 2) sc_l_words.nd rfl (by first | exact Or.inl rfl | exact Or.inr rfl) (ie_sl (ie_var (pv 2)) (io_some ie_int) io_none))
      (iss_one is_cont)) iss_nil)
      (iss_cons (is_if (it_cmp cm_gt (ie_var (pv 3)) ie_int (nomark _) bl_ord) (iss_one (is_set (i := 4) sc_l_words.nd rfl (by first | exact Or.inl rfl | exact Or.inr rfl) (ie_call (fact_l_run T) (hr.mono (by decide)) rfl (ia_cons (ie_sl (ie_var (pv 2)) io_none (io_some (ie_var (pv 3)))) ia_nil)))) (iss_one (is_if (it_cmp (cm_eq hu) (ie_ix hu (ie_var (pv 2)) ie_int (fun _ _ => rfl)) (ie_str (by decide +kernel)) (nomark _) bl_eq) (iss_cons (is_asg (ie_partition (ie_sl (ie_var (pv 2)) (io_some ie_int) io_none) (ia_cons (ie_str (by decide +kernel)) ia_nil)) (ig_tup (n := 3) rfl (igs_cons (ig_name (i := 5) sc_l_words.nd rfl (by first | exact Or.inl rfl | exact Or.inr rfl)) (igs_cons (ig_name (i := 6) sc_l_words.nd rfl (by first | exact Or.inl rfl | exact Or.inr rfl)) (igs_cons (ig_name (i := 7) sc_l_words.nd rfl (by first | exact Or.inl rfl | exact Or.inr rfl)) igs_nil)))))
      (iss_cons (is_set (i := 3) sc_l_words.nd rfl (by first | exact Or.inl rfl | exact Or.inr rfl) (ie_add (ie_len rfl T.b_len (ia_cons (ie_var (pv 5)) ia_nil)) ie_int))
      (iss_one (is_if (it_bool (iw_and (it_cmp (cm_ne hu) (ie_var (pv 6)) (ie_str (by decide +kernel)) (nomark _) bl_ne) (iw_and1 (it_cmp cm_lt (ie_len rfl T.b_len (ia_cons (ie_var (pv 5)) ia_nil)) ie_int (nomark _) bl_ord)))) (iss_one (is_set (i := 4) sc_l_words.nd rfl (by first | exact Or.inl rfl | exact Or.inr rfl) (ie_tup (ia_cons (ie_str (by decide +kernel)) (ia_cons (ie_var (pv 5)) ia_nil))))) iss_nil)))) (iss_cons (is_set (i := 3) sc_l_words.nd rfl (by first | exact Or.inl rfl | exact Or.inr rfl) (ie_add ie_int (ie_toInt rfl T.b_int (ia_cons (ie_cmp (cm_in hu) (ie_sl (ie_var (pv 2)) io_none (io_some ie_int)) (ie_tup (ia_cons (ie_str (by decide +kernel)) (ia_cons (ie_str (by decide +kernel)) (ia_cons (ie_str (by decide +kernel)) (ia_cons (ie_str (by decide +kernel)) (ia_cons (ie_str (by decide +kernel)) (ia_cons (ie_str (by decide +kernel)) (ia_cons (ie_str (by decide +kernel)) (ia_cons (ie_str (by decide +kernel)) ia_nil))))))))) (by rfl)) ia_nil))))
      (iss_one (is_if (it_bool (iw_or (it_cmp (cm_eq hu) (ie_var (pv 3)) ie_int (nomark _) bl_eq) (iw_or1 (it_cmp (cm_in hu) (ie_ix hu (ie_var (pv 2)) ie_int (fun _ _ => rfl)) (ie_str (by decide +kernel)) (by rfl) bl_in)))) (iss_one (is_set (i := 4) sc_l_words.nd rfl (by first | exact Or.inl rfl | exact Or.inr rfl) (ie_tup (ia_cons (ie_str (by decide +kernel)) (ia_cons (ie_sl (ie_var (pv 2)) io_none (io_some (ie_var (pv 3)))) ia_nil))))) iss_nil))))))
      (iss_cons (is_if (it_cmp cm_is (ie_var (pv 4)) ie_non (nomark _) bl_is) (iss_one (is_ret ie_non)) iss_nil)
      (iss_cons (is_expr (ie_append (ie_var (pv 1)) (ia_cons (ie_var (pv 4)) ia_nil)))
      (iss_one (is_set (i := 2) sc_l_words.nd rfl (by first | exact Or.inl rfl | exact Or.inr rfl) (ie_sl (ie_var (pv 2)) (io_some (ie_var (pv 3))) io_none)))))))))))
      (iss_one (is_ret (ie_var (pv 1)))))))
noncomputable def eC_l_row_1 : ME :=
    (eBin kIx (eCall F_l_signs aNil) (eBin opMod (eCall F_l_mixed (aCons (eVar 2) (aCons (eVar 4) aNil))) (eC (.int 94))))
noncomputable def b_l_row : MS :=
    (sSeq (sSet 1 (eBin kIx (eLst (aCons (eBin opMul (eC (.int 4)) (eBin opMod (eVar 0) (eC (.int 4)))) (aCons (eBin opMul (eC (.int 4)) (eBin opMod (eVar 0) (eC (.int 15)))) (aCons (eBin opMod (eVar 0) (eC (.int 57))) (aCons (eC (.int 0)) aNil))))) (eBin opMod (eBin opDiv (eVar 0) (eC (.int 60))) (eC (.int 4)))))
    (sSeq (sSet 2 (eBin opDiv (eVar 0) (eC (.int 240))))
    (sSeq (sIf (tOf (eBin kEq (eBin opMod (eVar 2) (eC (.int 8))) (eC (.int 0)))) (sRet (eBin opMul (eC (.str [32])) (eVar 1))) sNext)
    (sSeq (sIf (tOf (eBin kEq (eBin opMod (eVar 2) (eC (.int 8))) (eC (.int 1)))) (sRet (eBin opAdd (eBin opAdd (eBin opMul (eC (.str [32])) (eVar 1)) (eC (.str [35, 32]))) (eSl (eC (.str [97, 98, 34, 35, 49])) oNone (oSome (eBin opMod (eBin opDiv (eVar 2) (eC (.int 8))) (eC (.int 6))))))) sNext)
    (sSeq (sIf (tOf (eBin kEq (eBin opMod (eVar 2) (eC (.int 8))) (eC (.int 2)))) (sRet (eBin opAdd (eBin opAdd (eBin opAdd (eBin opMul (eC (.str [32])) (eVar 1)) (eC (.str [115, 97, 121, 40, 34]))) (eSl (eC (.str [97, 35, 98, 32, 35, 32])) oNone (oSome (eBin opMod (eBin opDiv (eVar 2) (eC (.int 8))) (eC (.int 7)))))) (eC (.str [34, 41, 32, 35, 32, 99])))) sNext)
    (sSeq (sIf (tOf (eBin kEq (eBin opMod (eVar 2) (eC (.int 8))) (eC (.int 3)))) (sRet (eBin opAdd (eBin opMul (eC (.str [32])) (eVar 1)) (eBin kIx (eLst (aCons (eC (.str [36])) (aCons (eC (.str [97, 32, 63])) (aCons (eC (.str [95])) (aCons (eC (.str [48, 49])) (aCons (eC (.str [34, 97])) (aCons (eC (.str [98, 32, 34])) (aCons (eC (.str [33, 32, 97])) (aCons (eC (.str [97, 59])) aNil))))))))) (eBin opMod (eBin opDiv (eVar 2) (eC (.int 8))) (eC (.int 8)))))) sNext)
    (sSeq (sIf (tOf (eBin kEq (eBin opMod (eVar 2) (eC (.int 8))) (eC (.int 4)))) (sRet (eBin opAdd (eBin opMul (eC (.str [32])) (eVar 1)) (eBin kIx (eLst (aCons (eC (.str [105, 102, 32, 97, 58])) (aCons (eC (.str [101, 108, 115, 101, 58])) (aCons (eC (.str [120, 32, 61, 32, 49])) (aCons (eC (.str [112, 97, 115, 115, 35])) (aCons (eC (.str [114, 101, 116, 117, 114, 110])) (aCons (eC (.str [121, 43, 61, 50])) aNil))))))) (eBin opMod (eBin opDiv (eVar 2) (eC (.int 8))) (eC (.int 6)))))) sNext)
    (sSeq (sSet 3 (eBM isS joinM (eC (.str [])) (aCons (eLc [4] (iR1 (aCons (eBin opMod (eBin opDiv (eVar 2) (eC (.int 8))) (eC (.int 6))) aNil)) (mName 4) tYesM eC_l_row_1) aNil)))
    (sRet (eBin opAdd (eBin opMul (eC (.str [32])) (eVar 1)) (eVar 3)))))))))))
noncomputable def F_l_row : FN := mkFn 5 1 b_l_row
theorem fact_l_row (T : Txt K w mg cad) : FnFact P w K mg base cad "_law_row" 2 [] F_l_row := by
  exact fn_fact (k := 1) (N := N_l_row) T.f_l_row sc_l_row fun fa cdv A outer s H E hr => by
    have hu := hr.units
    exact
      (iss_cons (is_set (i := 1) sc_l_row.nd rfl (by first | exact Or.inl rfl | exact Or.inr rfl) (ie_ix hu (ie_lst (ia_cons (ie_mul ie_int (ie_mod (ie_var (pv 0)) ie_int)) (ia_cons (ie_mul ie_int (ie_mod (ie_var (pv 0)) ie_int)) (ia_cons (ie_mod (ie_var (pv 0)) ie_int) (ia_cons ie_int ia_nil))))) (ie_mod (ie_div (ie_var (pv 0)) ie_int) ie_int) (fun _ _ => rfl)))
      (iss_cons (is_set (i := 2) sc_l_row.nd rfl (by first | exact Or.inl rfl | exact Or.inr rfl) (ie_div (ie_var (pv 0)) ie_int))
      (iss_cons (is_if (it_cmp (cm_eq hu) (ie_mod (ie_var (pv 2)) ie_int) ie_int (nomark _) bl_eq) (iss_one (is_ret (ie_mul (ie_str (by decide +kernel)) (ie_var (pv 1))))) iss_nil)
      (iss_cons (is_if (it_cmp (cm_eq hu) (ie_mod (ie_var (pv 2)) ie_int) ie_int (nomark _) bl_eq) (iss_one (is_ret (ie_add (ie_add (ie_mul (ie_str (by decide +kernel)) (ie_var (pv 1))) (ie_str (by decide +kernel))) (ie_sl (ie_str (by decide +kernel)) io_none (io_some (ie_mod (ie_div (ie_var (pv 2)) ie_int) ie_int)))))) iss_nil)
      (iss_cons (is_if (it_cmp (cm_eq hu) (ie_mod (ie_var (pv 2)) ie_int) ie_int (nomark _) bl_eq) (iss_one (is_ret (ie_add (ie_add (ie_add (ie_mul (ie_str (by decide +kernel)) (ie_var (pv 1))) (ie_str (by decide +kernel))) (ie_sl (ie_str (by decide +kernel)) io_none (io_some (ie_mod (ie_div (ie_var (pv 2)) ie_int) ie_int)))) (ie_str (by decide +kernel))))) iss_nil)
      (iss_cons (is_if (it_cmp (cm_eq hu) (ie_mod (ie_var (pv 2)) ie_int) ie_int (nomark _) bl_eq) (iss_one (is_ret (ie_add (ie_mul (ie_str (by decide +kernel)) (ie_var (pv 1))) (ie_ix hu (ie_lst (ia_cons (ie_str (by decide +kernel)) (ia_cons (ie_str (by decide +kernel)) (ia_cons (ie_str (by decide +kernel)) (ia_cons (ie_str (by decide +kernel)) (ia_cons (ie_str (by decide +kernel)) (ia_cons (ie_str (by decide +kernel)) (ia_cons (ie_str (by decide +kernel)) (ia_cons (ie_str (by decide +kernel)) ia_nil))))))))) (ie_mod (ie_div (ie_var (pv 2)) ie_int) ie_int) (fun _ _ => rfl))))) iss_nil)
      (iss_cons (is_if (it_cmp (cm_eq hu) (ie_mod (ie_var (pv 2)) ie_int) ie_int (nomark _) bl_eq) (iss_one (is_ret (ie_add (ie_mul (ie_str (by decide +kernel)) (ie_var (pv 1))) (ie_ix hu (ie_lst (ia_cons (ie_str (by decide +kernel)) (ia_cons (ie_str (by decide +kernel)) (ia_cons (ie_str (by decide +kernel)) (ia_cons (ie_str (by decide +kernel)) (ia_cons (ie_str (by decide +kernel)) (ia_cons (ie_str (by decide +kernel)) ia_nil))))))) (ie_mod (ie_div (ie_var (pv 2)) ie_int) ie_int) (fun _ _ => rfl))))) iss_nil)
      (iss_cons (is_set (i := 3) sc_l_row.nd rfl (by first | exact Or.inl rfl | exact Or.inr rfl) (ie_join (ie_str (by decide +kernel)) (ia_cons (ie_lc (own := [("_law_k", 4)]) (t := tYesM) (tt := tYes) rfl sc_l_row.nd (ii_r1 rfl T.b_range (ia_cons (ie_mod (ie_div (ie_var (pv 2)) ie_int) ie_int) ia_nil)) (blkOk_by (N := N_l_row) (sc := defScope s_l_row) (by decide +kernel)) (fun _ _ _ _ _ => (pg_name (i := 4) sc_l_row.nd rfl (by first | exact Or.inl rfl | exact Or.inr rfl))) (gw_name (i := 4) (by decide)) (fun _ _ _ _ _ => pts_nil) tYes_to (fun _ _ _ _ _ => (ie_ix hu (ie_call0 (fact_l_signs T) (hr.mono (by decide)) rfl) (ie_mod (ie_call (fact_l_mixed T) (hr.mono (by decide)) rfl (ia_cons (ie_var (pv 2)) (ia_cons (ie_var (pv 4)) ia_nil))) ie_int) (fun _ _ => rfl)))) ia_nil)))
      (iss_one (is_ret (ie_add (ie_mul (ie_str (by decide +kernel)) (ie_var (pv 1))) (ie_var (pv 3)))))))))))))
noncomputable def tW_l_indent_1 : MT :=
    (tAnd (tOf (eBin kLt (eVar 1) (eCall (o1 lenO) (aCons (eVar 0) aNil)))) (tOf (eBin kEq (eBin kIx (eVar 0) (eVar 1)) (eC (.str [32])))))
noncomputable def uW_l_indent_2 : MS :=
    (sSet 1 (eBin opAdd (eVar 1) (eC (.int 1))))
noncomputable def b_l_indent : MS :=
    (sSeq (sSet 1 (eC (.int 0)))
    (sSeq (sWhile tW_l_indent_1 uW_l_indent_2)
    (sSeq (sIf (tOr (tOf (eBin kGt (eBin opMod (eVar 1) (eC (.int 4))) (eC (.int 0)))) (tOf (eBin kGt (eVar 1) (eC (.int 48))))) (sRet (eC .non)) sNext)
    (sRet (eBin opDiv (eVar 1) (eC (.int 4)))))))
noncomputable def F_l_indent : FN := mkFn 2 1 b_l_indent
theorem fact_l_indent (T : Txt K w mg cad) : FnFact P w K mg base cad "_law_indent" 1 [] F_l_indent := by
  exact fn_fact (k := 0) (N := N_l_indent) T.f_l_indent sc_l_indent fun fa cdv A outer s H E hr => by
    have hu := hr.units
    exact
      (iss_cons (is_set (i := 1) sc_l_indent.nd rfl (by first | exact Or.inl rfl | exact Or.inr rfl) ie_int)
      (iss_cons (is_while PassesOwn.never (it_bool (iw_and (it_cmp cm_lt (ie_var (pv 1)) (ie_len rfl T.b_len (ia_cons (ie_var (pv 0)) ia_nil)) (nomark _) bl_ord) (iw_and1 (it_cmp (cm_eq hu) (ie_ix hu (ie_var (pv 0)) (ie_var (pv 1)) (fun _ _ => rfl)) (ie_str (by decide +kernel)) (nomark _) bl_eq)))) (iss_one (is_set (i := 1) sc_l_indent.nd rfl (by first | exact Or.inl rfl | exact Or.inr rfl) (ie_add (ie_var (pv 1)) ie_int))))
      (iss_cons (is_if (it_bool (iw_or (it_cmp cm_gt (ie_mod (ie_var (pv 1)) ie_int) ie_int (nomark _) bl_ord) (iw_or1 (it_cmp cm_gt (ie_var (pv 1)) ie_int (nomark _) bl_ord)))) (iss_one (is_ret ie_non)) iss_nil)
      (iss_one (is_ret (ie_div (ie_var (pv 1)) ie_int))))))
noncomputable def uF_law_1 : MS :=
    (sSeq (sSet 6 (eCall F_rows_of (aCons (eBM isS joinM (eC (.str [10])) (aCons (eVar 2) aNil)) aNil)))
    (sSeq (sIf (tOr (tNot (tOf (eUn (isiO [.lst]) (eVar 6)))) (tOf (eReprC true (eVar 6) (eVar 3)))) (sRet (eC (.bl false))) sNext)
    (sExpr (eBM isL appM (eVar 6) (aCons (eTup (aCons (eC (.int 0)) (aCons (eC (.int 0)) (aCons (eLst aNil) aNil)))) aNil)))))
noncomputable def uF_law_2 : MS :=
    (sSeq (sSet 5 (eCall F_l_words (aCons (eBin kIx (eVar 2) (eVar 4)) aNil)))
    (sSeq (sIf (tOf (eBin kNe (eVar 5) (eLst aNil))) (sExpr (eBM isL appM (eVar 3) (aCons (eTup (aCons (eVar 4) (aCons (eCall F_l_indent (aCons (eBin kIx (eVar 2) (eVar 4)) aNil)) (aCons (eVar 5) aNil)))) aNil))) sNext)
    (sSeq (sSet 6 (eCall F_indent_of (aCons (eBin kIx (eVar 2) (eVar 4)) aNil)))
    (sSeq (sIf (tOr (tOf (eBin kNe (eVar 6) (eCall F_l_indent (aCons (eBin kIx (eVar 2) (eVar 4)) aNil)))) (tOf (eUn (isiO [.bl]) (eVar 6)))) (sRet (eC (.bl false))) sNext)
    (sIf (tOf (eReprC true (eCall F_words_of (aCons (eBin kIx (eVar 2) (eVar 4)) aNil)) (eVar 5))) (sRet (eC (.bl false))) sNext)))))
noncomputable def eC_law_3 : ME :=
    (eCall F_l_row (aCons (eCall F_l_mixed (aCons (eCall F_l_cell_at (aCons (eVar 0) (aCons (eBin opAdd (eC (.int 1)) (eBin opMod (eVar 4) (eC (.int 40)))) aNil))) (aCons (eVar 4) aNil))) aNil))
noncomputable def b_law : MS :=
    (sSeq (sSet 1 (eBin opAdd (eC (.int 1)) (eBin opMod (eCall F_l_cell_at (aCons (eVar 0) (aCons (eC (.int 0)) aNil))) (eC (.int 30)))))
    (sSeq (sSet 2 (eLc [4] (iR1 (aCons (eVar 1) aNil)) (mName 4) tYesM eC_law_3))
    (sSeq (sSet 3 (eLst aNil))
    (sSeq (sFor (iR1 (aCons (eVar 1) aNil)) (mName 4) uF_law_2)
    (sSeq (sFor (iR1 (aCons (eC (.int 2)) aNil)) (mName 7) uF_law_1)
    (sRet (eC (.bl true))))))))
noncomputable def F_law : FN := mkFn 8 1 b_law
theorem ok_law (T : Txt K w mg cad) {f : Addr} {fd : FuncData} (F : Fun K "law" "law" s_law f fd) : FnG P w K mg base 7 f fd ["_law_script"] (spOf K cad F_law) := by
  exact fn_okG (k := 6) (N := N_law) F sc_law fun cdv A outer s H E hG hr => by
    have hu := hr.units
    exact
      (iss_cons (is_set (i := 1) sc_law.nd rfl (by first | exact Or.inl rfl | exact Or.inr rfl) (ie_add ie_int (ie_mod (ie_call (fact_l_cell_at T) (hr.mono (by decide)) rfl (ia_cons (ie_var (pv 0)) (ia_cons ie_int ia_nil))) ie_int)))
      (iss_cons (is_setLc (i := 2) (own := [("_law_k", 4)]) (t := tYesM) (tt := tYes) rfl sc_law.nd rfl rfl (sw_true rfl rfl rfl (by decide +kernel)) (ii_r1 rfl T.b_range (ia_cons (ie_var (pv 1)) ia_nil)) (blkOk_by (N := N_law) (sc := defScope s_law) (by decide +kernel)) (fun _ _ _ _ _ => (pg_name (i := 4) sc_law.nd rfl (by first | exact Or.inl rfl | exact Or.inr rfl))) (gw_name (i := 4) (by decide)) (fun _ _ _ _ _ => pts_nil) tYes_to (fun _ _ _ _ _ => (ie_call (fact_l_row T) (hr.mono (by decide)) rfl (ia_cons (ie_call (fact_l_mixed T) (hr.mono (by decide)) rfl (ia_cons (ie_call (fact_l_cell_at T) (hr.mono (by decide)) rfl (ia_cons (ie_var (pv 0)) (ia_cons (ie_add ie_int (ie_mod (ie_var (pv 4)) ie_int)) ia_nil))) (ia_cons (ie_var (pv 4)) ia_nil))) ia_nil))))
      (iss_cons (is_set (i := 3) sc_law.nd rfl (by first | exact Or.inl rfl | exact Or.inr rfl) (ie_lst ia_nil))
      (iss_cons (is_for PassesOwn.never rfl (ii_r1 rfl T.b_range (ia_cons (ie_var (pv 1)) ia_nil)) (ig_name (i := 4) sc_law.nd rfl (by first | exact Or.inl rfl | exact Or.inr rfl)) (iss_cons (is_set (i := 5) sc_law.nd rfl (by first | exact Or.inl rfl | exact Or.inr rfl) (ie_call (fact_l_words T) (hr.mono (by decide)) rfl (ia_cons (ie_ix hu (ie_var (pv 2)) (ie_var (pv 4)) (fun _ _ => rfl)) ia_nil)))
      (iss_cons (is_if (it_cmp (cm_ne hu) (ie_var (pv 5)) (ie_lst ia_nil) (nomark _) bl_ne) (iss_one (is_expr (ie_append (ie_var (pv 3)) (ia_cons (ie_tup (ia_cons (ie_var (pv 4)) (ia_cons (ie_call (fact_l_indent T) (hr.mono (by decide)) rfl (ia_cons (ie_ix hu (ie_var (pv 2)) (ie_var (pv 4)) (fun _ _ => rfl)) ia_nil)) (ia_cons (ie_var (pv 5)) ia_nil)))) ia_nil)))) iss_nil)
      (iss_cons (is_set (i := 6) sc_law.nd rfl (by first | exact Or.inl rfl | exact Or.inr rfl) (ie_call (fact_indent_of T) (hr.mono (by decide)) rfl (ia_cons (ie_ix hu (ie_var (pv 2)) (ie_var (pv 4)) (fun _ _ => rfl)) ia_nil)))
      (iss_cons (is_if (it_bool (iw_or (it_cmp (cm_ne hu) (ie_var (pv 6)) (ie_call (fact_l_indent T) (hr.mono (by decide)) rfl (ia_cons (ie_ix hu (ie_var (pv 2)) (ie_var (pv 4)) (fun _ _ => rfl)) ia_nil)) (nomark _) bl_ne) (iw_or1 (it_of (ie_isi (n := .bl) (by decide) rfl T.b_isinstance (ie_var (pv 6)) (pe_bltn (v := .ty "bool") rfl T.b_bool (by decide +kernel) rfl)))))) (iss_one (is_ret ie_bl)) iss_nil)
      (iss_one (is_if (it_reprNe hG hu rfl T.b_repr (ie_call (fact_words_of T) (hr.mono (by decide)) rfl (ia_cons (ie_ix hu (ie_var (pv 2)) (ie_var (pv 4)) (fun _ _ => rfl)) ia_nil)) (ie_var (pv 5))) (iss_one (is_ret ie_bl)) iss_nil)))))))
      (iss_cons (is_for PassesOwn.never rfl (ii_r1 rfl T.b_range (ia_cons ie_int ia_nil)) (ig_name (i := 7) sc_law.nd rfl (by first | exact Or.inl rfl | exact Or.inr rfl)) (iss_cons (is_set (i := 6) sc_law.nd rfl (by first | exact Or.inl rfl | exact Or.inr rfl) (ie_call (fact_rows_of T) (hr.mono (by decide)) rfl (ia_cons (ie_join (ie_str (by decide +kernel)) (ia_cons (ie_var (pv 2)) ia_nil)) ia_nil)))
      (iss_cons (is_if (it_bool (iw_or (it_not (it_of (ie_isi (n := .lst) (by decide) rfl T.b_isinstance (ie_var (pv 6)) (pe_bltn (v := .ty "list") rfl T.b_list (by decide +kernel) rfl)))) (iw_or1 (it_reprNe hG hu rfl T.b_repr (ie_var (pv 6)) (ie_var (pv 3)))))) (iss_one (is_ret ie_bl)) iss_nil)
      (iss_one (is_expr (ie_append (ie_var (pv 6)) (ia_cons (ie_tup (ia_cons ie_int (ia_cons ie_int (ia_cons (ie_lst ia_nil) ia_nil)))) ia_nil)))))))
      (iss_one (is_ret ie_bl)))))))
theorem all_mk {l : PySem.W.OpenLaw} {w : World} {K : PySem.W.Frag} {h : Heap} {mg : Str → Option Value} {fa : Addr} (X : K.In h) (G : h.Ns mainGlobals mg) (hfa : mg "law" = some (.ref fa))
    {f0 : Addr} {od0 an0 : Option Addr} {sl0 : Array (Option Value)} {oc0 kV0 dc0 pm0 cd0 ct0 : Value}
    (a0 : PySem.W.nsIn K mainGlobals "is_told" = some (some (.ref f0)))
    (l0 : K.lookup f0 = some ⟨oc0, od0, .func (PySem.W.fnOf "is_told" "is_told" (defArgs s_is_told) (defBody s_is_told) (defScope s_is_told) .none kV0 dc0 pm0 an0 cd0 ct0), sl0⟩)
    (c0 : PySem.W.codeIn K cd0 "is_told" = true)
    (k0 : PySem.W.keepIn K (.ref f0) = true)
    {f1 : Addr} {od1 an1 : Option Addr} {sl1 : Array (Option Value)} {oc1 kV1 dc1 pm1 cd1 ct1 : Value}
    (a1 : PySem.W.nsIn K mainGlobals "is_name" = some (some (.ref f1)))
    (l1 : K.lookup f1 = some ⟨oc1, od1, .func (PySem.W.fnOf "is_name" "is_name" (defArgs s_is_name) (defBody s_is_name) (defScope s_is_name) .none kV1 dc1 pm1 an1 cd1 ct1), sl1⟩)
    (c1 : PySem.W.codeIn K cd1 "is_name" = true)
    (k1 : PySem.W.keepIn K (.ref f1) = true)
    {f2 : Addr} {od2 an2 : Option Addr} {sl2 : Array (Option Value)} {oc2 kV2 dc2 pm2 cd2 ct2 : Value}
    (a2 : PySem.W.nsIn K mainGlobals "run_at" = some (some (.ref f2)))
    (l2 : K.lookup f2 = some ⟨oc2, od2, .func (PySem.W.fnOf "run_at" "run_at" (defArgs s_run_at) (defBody s_run_at) (defScope s_run_at) .none kV2 dc2 pm2 an2 cd2 ct2), sl2⟩)
    (c2 : PySem.W.codeIn K cd2 "run_at" = true)
    (k2 : PySem.W.keepIn K (.ref f2) = true)
    {f3 : Addr} {od3 an3 : Option Addr} {sl3 : Array (Option Value)} {oc3 kV3 dc3 pm3 cd3 ct3 : Value}
    (a3 : PySem.W.nsIn K mainGlobals "run_word" = some (some (.ref f3)))
    (l3 : K.lookup f3 = some ⟨oc3, od3, .func (PySem.W.fnOf "run_word" "run_word" (defArgs s_run_word) (defBody s_run_word) (defScope s_run_word) .none kV3 dc3 pm3 an3 cd3 ct3), sl3⟩)
    (c3 : PySem.W.codeIn K cd3 "run_word" = true)
    (k3 : PySem.W.keepIn K (.ref f3) = true)
    {f4 : Addr} {od4 an4 : Option Addr} {sl4 : Array (Option Value)} {oc4 kV4 dc4 pm4 cd4 ct4 : Value}
    (a4 : PySem.W.nsIn K mainGlobals "text_at" = some (some (.ref f4)))
    (l4 : K.lookup f4 = some ⟨oc4, od4, .func (PySem.W.fnOf "text_at" "text_at" (defArgs s_text_at) (defBody s_text_at) (defScope s_text_at) .none kV4 dc4 pm4 an4 cd4 ct4), sl4⟩)
    (c4 : PySem.W.codeIn K cd4 "text_at" = true)
    (k4 : PySem.W.keepIn K (.ref f4) = true)
    {f5 : Addr} {od5 an5 : Option Addr} {sl5 : Array (Option Value)} {oc5 kV5 dc5 pm5 cd5 ct5 : Value}
    (a5 : PySem.W.nsIn K mainGlobals "mark_at" = some (some (.ref f5)))
    (l5 : K.lookup f5 = some ⟨oc5, od5, .func (PySem.W.fnOf "mark_at" "mark_at" (defArgs s_mark_at) (defBody s_mark_at) (defScope s_mark_at) .none kV5 dc5 pm5 an5 cd5 ct5), sl5⟩)
    (c5 : PySem.W.codeIn K cd5 "mark_at" = true)
    (k5 : PySem.W.keepIn K (.ref f5) = true)
    {f6 : Addr} {od6 an6 : Option Addr} {sl6 : Array (Option Value)} {oc6 kV6 dc6 pm6 cd6 ct6 : Value}
    (a6 : PySem.W.nsIn K mainGlobals "word_at" = some (some (.ref f6)))
    (l6 : K.lookup f6 = some ⟨oc6, od6, .func (PySem.W.fnOf "word_at" "word_at" (defArgs s_word_at) (defBody s_word_at) (defScope s_word_at) .none kV6 dc6 pm6 an6 cd6 ct6), sl6⟩)
    (c6 : PySem.W.codeIn K cd6 "word_at" = true)
    (k6 : PySem.W.keepIn K (.ref f6) = true)
    {f7 : Addr} {od7 an7 : Option Addr} {sl7 : Array (Option Value)} {oc7 kV7 dc7 pm7 cd7 ct7 : Value}
    (a7 : PySem.W.nsIn K mainGlobals "words_of" = some (some (.ref f7)))
    (l7 : K.lookup f7 = some ⟨oc7, od7, .func (PySem.W.fnOf "words_of" "words_of" (defArgs s_words_of) (defBody s_words_of) (defScope s_words_of) .none kV7 dc7 pm7 an7 cd7 ct7), sl7⟩)
    (c7 : PySem.W.codeIn K cd7 "words_of" = true)
    (k7 : PySem.W.keepIn K (.ref f7) = true)
    {f8 : Addr} {od8 an8 : Option Addr} {sl8 : Array (Option Value)} {oc8 kV8 dc8 pm8 cd8 ct8 : Value}
    (a8 : PySem.W.nsIn K mainGlobals "indent_of" = some (some (.ref f8)))
    (l8 : K.lookup f8 = some ⟨oc8, od8, .func (PySem.W.fnOf "indent_of" "indent_of" (defArgs s_indent_of) (defBody s_indent_of) (defScope s_indent_of) .none kV8 dc8 pm8 an8 cd8 ct8), sl8⟩)
    (c8 : PySem.W.codeIn K cd8 "indent_of" = true)
    (k8 : PySem.W.keepIn K (.ref f8) = true)
    {f9 : Addr} {od9 an9 : Option Addr} {sl9 : Array (Option Value)} {oc9 kV9 dc9 pm9 cd9 ct9 : Value}
    (a9 : PySem.W.nsIn K mainGlobals "rows_of" = some (some (.ref f9)))
    (l9 : K.lookup f9 = some ⟨oc9, od9, .func (PySem.W.fnOf "rows_of" "rows_of" (defArgs s_rows_of) (defBody s_rows_of) (defScope s_rows_of) .none kV9 dc9 pm9 an9 cd9 ct9), sl9⟩)
    (c9 : PySem.W.codeIn K cd9 "rows_of" = true)
    (k9 : PySem.W.keepIn K (.ref f9) = true)
    {f10 : Addr} {od10 an10 : Option Addr} {sl10 : Array (Option Value)} {oc10 kV10 dc10 pm10 cd10 ct10 : Value}
    (a10 : PySem.W.nsIn K mainGlobals "_law_cell_at" = some (some (.ref f10)))
    (l10 : K.lookup f10 = some ⟨oc10, od10, .func (PySem.W.fnOf "_law_cell_at" "_law_cell_at" (defArgs s_l_cell_at) (defBody s_l_cell_at) (defScope s_l_cell_at) .none kV10 dc10 pm10 an10 cd10 ct10), sl10⟩)
    (c10 : PySem.W.codeIn K cd10 "_law_cell_at" = true)
    (k10 : PySem.W.keepIn K (.ref f10) = true)
    {f11 : Addr} {od11 an11 : Option Addr} {sl11 : Array (Option Value)} {oc11 kV11 dc11 pm11 cd11 ct11 : Value}
    (a11 : PySem.W.nsIn K mainGlobals "_law_mixed" = some (some (.ref f11)))
    (l11 : K.lookup f11 = some ⟨oc11, od11, .func (PySem.W.fnOf "_law_mixed" "_law_mixed" (defArgs s_l_mixed) (defBody s_l_mixed) (defScope s_l_mixed) .none kV11 dc11 pm11 an11 cd11 ct11), sl11⟩)
    (c11 : PySem.W.codeIn K cd11 "_law_mixed" = true)
    (k11 : PySem.W.keepIn K (.ref f11) = true)
    {f12 : Addr} {od12 an12 : Option Addr} {sl12 : Array (Option Value)} {oc12 kV12 dc12 pm12 cd12 ct12 : Value}
    (a12 : PySem.W.nsIn K mainGlobals "_law_signs" = some (some (.ref f12)))
    (l12 : K.lookup f12 = some ⟨oc12, od12, .func (PySem.W.fnOf "_law_signs" "_law_signs" (defArgs s_l_signs) (defBody s_l_signs) (defScope s_l_signs) .none kV12 dc12 pm12 an12 cd12 ct12), sl12⟩)
    (c12 : PySem.W.codeIn K cd12 "_law_signs" = true)
    (k12 : PySem.W.keepIn K (.ref f12) = true)
    {f13 : Addr} {od13 an13 : Option Addr} {sl13 : Array (Option Value)} {oc13 kV13 dc13 pm13 cd13 ct13 : Value}
    (a13 : PySem.W.nsIn K mainGlobals "_law_told" = some (some (.ref f13)))
    (l13 : K.lookup f13 = some ⟨oc13, od13, .func (PySem.W.fnOf "_law_told" "_law_told" (defArgs s_l_told) (defBody s_l_told) (defScope s_l_told) .none kV13 dc13 pm13 an13 cd13 ct13), sl13⟩)
    (c13 : PySem.W.codeIn K cd13 "_law_told" = true)
    (k13 : PySem.W.keepIn K (.ref f13) = true)
    {f14 : Addr} {od14 an14 : Option Addr} {sl14 : Array (Option Value)} {oc14 kV14 dc14 pm14 cd14 ct14 : Value}
    (a14 : PySem.W.nsIn K mainGlobals "_law_run" = some (some (.ref f14)))
    (l14 : K.lookup f14 = some ⟨oc14, od14, .func (PySem.W.fnOf "_law_run" "_law_run" (defArgs s_l_run) (defBody s_l_run) (defScope s_l_run) .none kV14 dc14 pm14 an14 cd14 ct14), sl14⟩)
    (c14 : PySem.W.codeIn K cd14 "_law_run" = true)
    (k14 : PySem.W.keepIn K (.ref f14) = true)
    {f15 : Addr} {od15 an15 : Option Addr} {sl15 : Array (Option Value)} {oc15 kV15 dc15 pm15 cd15 ct15 : Value}
    (a15 : PySem.W.nsIn K mainGlobals "_law_words" = some (some (.ref f15)))
    (l15 : K.lookup f15 = some ⟨oc15, od15, .func (PySem.W.fnOf "_law_words" "_law_words" (defArgs s_l_words) (defBody s_l_words) (defScope s_l_words) .none kV15 dc15 pm15 an15 cd15 ct15), sl15⟩)
    (c15 : PySem.W.codeIn K cd15 "_law_words" = true)
    (k15 : PySem.W.keepIn K (.ref f15) = true)
    {f16 : Addr} {od16 an16 : Option Addr} {sl16 : Array (Option Value)} {oc16 kV16 dc16 pm16 cd16 ct16 : Value}
    (a16 : PySem.W.nsIn K mainGlobals "_law_row" = some (some (.ref f16)))
    (l16 : K.lookup f16 = some ⟨oc16, od16, .func (PySem.W.fnOf "_law_row" "_law_row" (defArgs s_l_row) (defBody s_l_row) (defScope s_l_row) .none kV16 dc16 pm16 an16 cd16 ct16), sl16⟩)
    (c16 : PySem.W.codeIn K cd16 "_law_row" = true)
    (k16 : PySem.W.keepIn K (.ref f16) = true)
    {f17 : Addr} {od17 an17 : Option Addr} {sl17 : Array (Option Value)} {oc17 kV17 dc17 pm17 cd17 ct17 : Value}
    (a17 : PySem.W.nsIn K mainGlobals "_law_indent" = some (some (.ref f17)))
    (l17 : K.lookup f17 = some ⟨oc17, od17, .func (PySem.W.fnOf "_law_indent" "_law_indent" (defArgs s_l_indent) (defBody s_l_indent) (defScope s_l_indent) .none kV17 dc17 pm17 an17 cd17 ct17), sl17⟩)
    (c17 : PySem.W.codeIn K cd17 "_law_indent" = true)
    (k17 : PySem.W.keepIn K (.ref f17) = true)
    {f18 : Addr} {od18 an18 : Option Addr} {sl18 : Array (Option Value)} {oc18 kV18 dc18 pm18 cd18 ct18 : Value}
    (a18 : PySem.W.nsIn K mainGlobals "law" = some (some (.ref f18)))
    (l18 : K.lookup f18 = some ⟨oc18, od18, .func (PySem.W.fnOf "law" "law" (defArgs s_law) (defBody s_law) (defScope s_law) .none kV18 dc18 pm18 an18 cd18 ct18), sl18⟩)
    (c18 : PySem.W.codeIn K cd18 "law" = true)
    (k18 : PySem.W.keepIn K (.ref f18) = true)
    {t_FIGURES : Tok}
    (n_FIGURES : PySem.W.nsIn K mainGlobals "FIGURES" = some (some (.str "0123456789" t_FIGURES)))
    {t_LETTERS : Tok}
    (n_LETTERS : PySem.W.nsIn K mainGlobals "LETTERS" = some (some (.str "abcdefghijklmnopqrstuvwxyzABCDEFGHIJKLMNOPQRSTUVWXYZ" t_LETTERS)))
    {ka1 : Addr} {ko1 : Option Addr} {kn1 : Nat} {ks1 : Array (Option Value)}
    {kt2 : Tok}
    {kt3 : Tok}
    {kt4 : Tok}
    {kt5 : Tok}
    {kt6 : Tok}
    {kt7 : Tok}
    {kt8 : Tok}
    {kt9 : Tok}
    (n_LONG_MARKS : PySem.W.nsIn K mainGlobals "LONG_MARKS" = some (some (.ref ka1)))
    (kl1 : K.lookup ka1 = some ⟨.type "tuple", ko1, .seq #[.str "//" kt2, .str "<=" kt3, .str ">=" kt4, .str "==" kt5, .str "!=" kt6, .str "+=" kt7, .str "-=" kt8, .str "*=" kt9] kn1, ks1⟩)
    {t_MOST_BLOCKS : Tok}
    (n_MOST_BLOCKS : PySem.W.nsIn K mainGlobals "MOST_BLOCKS" = some (some (.int 12 t_MOST_BLOCKS)))
    {t_MOST_SIGNS : Tok}
    (n_MOST_SIGNS : PySem.W.nsIn K mainGlobals "MOST_SIGNS" = some (some (.int 12 t_MOST_SIGNS)))
    {t_MOST_TEXT : Tok}
    (n_MOST_TEXT : PySem.W.nsIn K mainGlobals "MOST_TEXT" = some (some (.int 40 t_MOST_TEXT)))
    {t_SHORT_MARKS : Tok}
    (n_SHORT_MARKS : PySem.W.nsIn K mainGlobals "SHORT_MARKS" = some (some (.str "+-*&|<>=(),.:" t_SHORT_MARKS)))
    {t_STEP : Tok}
    (n_STEP : PySem.W.nsIn K mainGlobals "STEP" = some (some (.int 4 t_STEP)))
    {ka10 : Addr} {ko10 : Option Addr} {kn10 : Nat} {ks10 : Array (Option Value)}
    {kt11 : Tok}
    {kt12 : Tok}
    {kt13 : Tok}
    {kt14 : Tok}
    {kt15 : Tok}
    {kt16 : Tok}
    {kt17 : Tok}
    {kt18 : Tok}
    {kt19 : Tok}
    {kt20 : Tok}
    {kt21 : Tok}
    {kt22 : Tok}
    {kt23 : Tok}
    (n_TOLD : PySem.W.nsIn K mainGlobals "TOLD" = some (some (.ref ka10)))
    (kl10 : K.lookup ka10 = some ⟨.type "tuple", ko10, .seq #[.str "and" kt11, .str "as" kt12, .str "break" kt13, .str "class" kt14, .str "continue" kt15, .str "def" kt16, .str "elif" kt17, .str "else" kt18, .str "except" kt19, .str "False" kt20, .str "finally" kt21, .str "for" kt22, .str "from" kt23] kn10, ks10⟩)
    {ka24 : Addr} {ko24 : Option Addr} {kn24 : Nat} {ks24 : Array (Option Value)}
    {kt25 : Tok}
    {kt26 : Tok}
    {kt27 : Tok}
    {kt28 : Tok}
    {kt29 : Tok}
    {kt30 : Tok}
    {kt31 : Tok}
    {kt32 : Tok}
    {kt33 : Tok}
    {kt34 : Tok}
    {kt35 : Tok}
    {kt36 : Tok}
    {kt37 : Tok}
    (n_TOLD_TOO : PySem.W.nsIn K mainGlobals "TOLD_TOO" = some (some (.ref ka24)))
    (kl24 : K.lookup ka24 = some ⟨.type "tuple", ko24, .seq #[.str "global" kt25, .str "if" kt26, .str "in" kt27, .str "None" kt28, .str "nonlocal" kt29, .str "not" kt30, .str "or" kt31, .str "pass" kt32, .str "raise" kt33, .str "return" kt34, .str "True" kt35, .str "try" kt36, .str "while" kt37] kn24, ks24⟩)
    (z_all : PySem.W.nsIn K mainGlobals "all" = some none)
    (z_bool : PySem.W.nsIn K mainGlobals "bool" = some none)
    (z_divmod : PySem.W.nsIn K mainGlobals "divmod" = some none)
    (z_enumerate : PySem.W.nsIn K mainGlobals "enumerate" = some none)
    (z_int : PySem.W.nsIn K mainGlobals "int" = some none)
    (z_isinstance : PySem.W.nsIn K mainGlobals "isinstance" = some none)
    (z_len : PySem.W.nsIn K mainGlobals "len" = some none)
    (z_list : PySem.W.nsIn K mainGlobals "list" = some none)
    (z_range : PySem.W.nsIn K mainGlobals "range" = some none)
    (z_repr : PySem.W.nsIn K mainGlobals "repr" = some none)
    (z_str : PySem.W.nsIn K mainGlobals "str" = some none)
    (hlaw : ∀ ns : List Int, ns.length ≤ 63 → ∃ st', F_law [.ref 0] [.fz (ns.map D.int)] = some (.bl true, st')) :
    ∃ fd : FuncData, (∀ (s : Shared) (v : Value), BindsTo s fd ⟨[v], []⟩ [("_law_script", v)]) ∧ ∀ base : Heap, K.In base → base.Ns mainGlobals mg → FnG l.prog w K mg base 7 fa fd ["_law_script"] (spLaw K) := by
  have e := hfa.symm.trans (PySem.W.mg_of X G a18)
  cases e
  have T : Txt K w mg (fun _ => 0) := ⟨PySem.W.mg_none_of X G z_all,
    PySem.W.mg_none_of X G z_bool,
    PySem.W.mg_none_of X G z_divmod,
    PySem.W.mg_none_of X G z_enumerate,
    PySem.W.mg_none_of X G z_int,
    PySem.W.mg_none_of X G z_isinstance,
    PySem.W.mg_none_of X G z_len,
    PySem.W.mg_none_of X G z_list,
    PySem.W.mg_none_of X G z_range,
    PySem.W.mg_none_of X G z_repr,
    PySem.W.mg_none_of X G z_str,
    ⟨_, PySem.W.mg_of X G n_FIGURES⟩,
    ⟨_, PySem.W.mg_of X G n_LETTERS⟩,
    ⟨_, PySem.W.mg_of X G n_LONG_MARKS, fun as H => (vr_ktup kl1 rfl rfl (szK (k := 8) rfl (by decide +kernel)) (.cons (rv_str [47, 47] (by rfl) _) (.cons (rv_str [60, 61] (by rfl) _) (.cons (rv_str [62, 61] (by rfl) _) (.cons (rv_str [61, 61] (by rfl) _) (.cons (rv_str [33, 61] (by rfl) _) (.cons (rv_str [43, 61] (by rfl) _) (.cons (rv_str [45, 61] (by rfl) _) (.cons (rv_str [42, 61] (by rfl) _) .nil)))))))) (.cons (.str (by decide +kernel)) (.cons (.str (by decide +kernel)) (.cons (.str (by decide +kernel)) (.cons (.str (by decide +kernel)) (.cons (.str (by decide +kernel)) (.cons (.str (by decide +kernel)) (.cons (.str (by decide +kernel)) (.cons (.str (by decide +kernel)) .nil)))))))))⟩,
    ⟨_, PySem.W.mg_of X G n_MOST_BLOCKS⟩,
    ⟨_, PySem.W.mg_of X G n_MOST_SIGNS⟩,
    ⟨_, PySem.W.mg_of X G n_MOST_TEXT⟩,
    ⟨_, PySem.W.mg_of X G n_SHORT_MARKS⟩,
    ⟨_, PySem.W.mg_of X G n_STEP⟩,
    ⟨_, PySem.W.mg_of X G n_TOLD, fun as H => (vr_ktup kl10 rfl rfl (szK (k := 13) rfl (by decide +kernel)) (.cons (rv_str [97, 110, 100] (by rfl) _) (.cons (rv_str [97, 115] (by rfl) _) (.cons (rv_str [98, 114, 101, 97, 107] (by rfl) _) (.cons (rv_str [99, 108, 97, 115, 115] (by rfl) _) (.cons (rv_str [99, 111, 110, 116, 105, 110, 117, 101] (by rfl) _) (.cons (rv_str [100, 101, 102] (by rfl) _) (.cons (rv_str [101, 108, 105, 102] (by rfl) _) (.cons (rv_str [101, 108, 115, 101] (by rfl) _) (.cons (rv_str [101, 120, 99, 101, 112, 116] (by rfl) _) (.cons (rv_str [70, 97, 108, 115, 101] (by rfl) _) (.cons (rv_str [102, 105, 110, 97, 108, 108, 121] (by rfl) _) (.cons (rv_str [102, 111, 114] (by rfl) _) (.cons (rv_str [102, 114, 111, 109] (by rfl) _) .nil))))))))))))) (.cons (.str (by decide +kernel)) (.cons (.str (by decide +kernel)) (.cons (.str (by decide +kernel)) (.cons (.str (by decide +kernel)) (.cons (.str (by decide +kernel)) (.cons (.str (by decide +kernel)) (.cons (.str (by decide +kernel)) (.cons (.str (by decide +kernel)) (.cons (.str (by decide +kernel)) (.cons (.str (by decide +kernel)) (.cons (.str (by decide +kernel)) (.cons (.str (by decide +kernel)) (.cons (.str (by decide +kernel)) .nil))))))))))))))⟩,
    ⟨_, PySem.W.mg_of X G n_TOLD_TOO, fun as H => (vr_ktup kl24 rfl rfl (szK (k := 13) rfl (by decide +kernel)) (.cons (rv_str [103, 108, 111, 98, 97, 108] (by rfl) _) (.cons (rv_str [105, 102] (by rfl) _) (.cons (rv_str [105, 110] (by rfl) _) (.cons (rv_str [78, 111, 110, 101] (by rfl) _) (.cons (rv_str [110, 111, 110, 108, 111, 99, 97, 108] (by rfl) _) (.cons (rv_str [110, 111, 116] (by rfl) _) (.cons (rv_str [111, 114] (by rfl) _) (.cons (rv_str [112, 97, 115, 115] (by rfl) _) (.cons (rv_str [114, 97, 105, 115, 101] (by rfl) _) (.cons (rv_str [114, 101, 116, 117, 114, 110] (by rfl) _) (.cons (rv_str [84, 114, 117, 101] (by rfl) _) (.cons (rv_str [116, 114, 121] (by rfl) _) (.cons (rv_str [119, 104, 105, 108, 101] (by rfl) _) .nil))))))))))))) (.cons (.str (by decide +kernel)) (.cons (.str (by decide +kernel)) (.cons (.str (by decide +kernel)) (.cons (.str (by decide +kernel)) (.cons (.str (by decide +kernel)) (.cons (.str (by decide +kernel)) (.cons (.str (by decide +kernel)) (.cons (.str (by decide +kernel)) (.cons (.str (by decide +kernel)) (.cons (.str (by decide +kernel)) (.cons (.str (by decide +kernel)) (.cons (.str (by decide +kernel)) (.cons (.str (by decide +kernel)) .nil))))))))))))))⟩,
    fnAt_mk X G a0 l0 c0 k0 (fun _ _ _ _ _ _ us hl => match us, hl with | [_], _ => rfl),
    fnAt_mk X G a1 l1 c1 k1 (fun _ _ _ _ _ _ us hl => match us, hl with | [_], _ => rfl),
    fnAt_mk X G a2 l2 c2 k2 (fun _ _ _ _ _ _ us hl => match us, hl with | [_, _], _ => rfl),
    fnAt_mk X G a3 l3 c3 k3 (fun _ _ _ _ _ _ us hl => match us, hl with | [_], _ => rfl),
    fnAt_mk X G a4 l4 c4 k4 (fun _ _ _ _ _ _ us hl => match us, hl with | [_, _], _ => rfl),
    fnAt_mk X G a5 l5 c5 k5 (fun _ _ _ _ _ _ us hl => match us, hl with | [_, _], _ => rfl),
    fnAt_mk X G a6 l6 c6 k6 (fun _ _ _ _ _ _ us hl => match us, hl with | [_, _], _ => rfl),
    fnAt_mk X G a7 l7 c7 k7 (fun _ _ _ _ _ _ us hl => match us, hl with | [_], _ => rfl),
    fnAt_mk X G a8 l8 c8 k8 (fun _ _ _ _ _ _ us hl => match us, hl with | [_], _ => rfl),
    fnAt_mk X G a9 l9 c9 k9 (fun _ _ _ _ _ _ us hl => match us, hl with | [_], _ => rfl),
    fnAt_mk X G a10 l10 c10 k10 (fun _ _ _ _ _ _ us hl => match us, hl with | [_, _], _ => rfl),
    fnAt_mk X G a11 l11 c11 k11 (fun _ _ _ _ _ _ us hl => match us, hl with | [_, _], _ => rfl),
    fnAt_mk X G a12 l12 c12 k12 (fun _ _ _ _ _ _ us hl => match us, hl with | [], _ => rfl),
    fnAt_mk X G a13 l13 c13 k13 (fun _ _ _ _ _ _ us hl => match us, hl with | [], _ => rfl),
    fnAt_mk X G a14 l14 c14 k14 (fun _ _ _ _ _ _ us hl => match us, hl with | [_], _ => rfl),
    fnAt_mk X G a15 l15 c15 k15 (fun _ _ _ _ _ _ us hl => match us, hl with | [_], _ => rfl),
    fnAt_mk X G a16 l16 c16 k16 (fun _ _ _ _ _ _ us hl => match us, hl with | [_], _ => rfl),
    fnAt_mk X G a17 l17 c17 k17 (fun _ _ _ _ _ _ us hl => match us, hl with | [_], _ => rfl),
    fnAt_mk X G a18 l18 c18 k18 (fun _ _ _ _ _ _ us hl => match us, hl with | [_], _ => rfl)⟩
  exact ⟨_, fun s v => .of_eq rfl, fun base _ _ => law_impG (cad := (fun _ => 0)) (ok_law T (fun_mk l18 c18 k18)) hlaw⟩
end
end Text

set_option maxRecDepth 100000
set_option maxHeartbeats 4000000
namespace Math
open MP Text PySem
theorem cDv_2 (w : Int) : cDiv w 2 = true := decide_eq_true ⟨by decide, by decide +kernel⟩
theorem cMd_2 (w : Int) : cMod w 2 = true := decide_eq_true (by decide)
theorem gDv_2 (w : Int) : gDiv w 2 = w / 2 := by unfold gDiv; rw [if_pos (by decide)]
theorem gMd_2 (w : Int) : gMod w 2 = w % 2 := by unfold gMod; rw [if_pos (by decide)]
theorem cMr_2 (w : Int) : cMul w 2 = true := decide_eq_true (.inr (.inl (by decide)))
theorem cMl_2 (w : Int) : cMul 2 w = true := decide_eq_true (.inl (by decide))
theorem cDv_3 (w : Int) : cDiv w 3 = true := decide_eq_true ⟨by decide, by decide +kernel⟩
theorem cMd_3 (w : Int) : cMod w 3 = true := decide_eq_true (by decide)
theorem gDv_3 (w : Int) : gDiv w 3 = w / 3 := by unfold gDiv; rw [if_pos (by decide)]
theorem gMd_3 (w : Int) : gMod w 3 = w % 3 := by unfold gMod; rw [if_pos (by decide)]
theorem cMr_3 (w : Int) : cMul w 3 = true := decide_eq_true (.inr (.inl (by decide)))
theorem cMl_3 (w : Int) : cMul 3 w = true := decide_eq_true (.inl (by decide))
theorem cDv_4 (w : Int) : cDiv w 4 = true := decide_eq_true ⟨by decide, by decide +kernel⟩
theorem cMd_4 (w : Int) : cMod w 4 = true := decide_eq_true (by decide)
theorem gDv_4 (w : Int) : gDiv w 4 = w / 4 := by unfold gDiv; rw [if_pos (by decide)]
theorem gMd_4 (w : Int) : gMod w 4 = w % 4 := by unfold gMod; rw [if_pos (by decide)]
theorem cMr_4 (w : Int) : cMul w 4 = true := decide_eq_true (.inr (.inl (by decide)))
theorem cMl_4 (w : Int) : cMul 4 w = true := decide_eq_true (.inl (by decide))
theorem cDv_5 (w : Int) : cDiv w 5 = true := decide_eq_true ⟨by decide, by decide +kernel⟩
theorem cMd_5 (w : Int) : cMod w 5 = true := decide_eq_true (by decide)
theorem gDv_5 (w : Int) : gDiv w 5 = w / 5 := by unfold gDiv; rw [if_pos (by decide)]
theorem gMd_5 (w : Int) : gMod w 5 = w % 5 := by unfold gMod; rw [if_pos (by decide)]
theorem cMr_5 (w : Int) : cMul w 5 = true := decide_eq_true (.inr (.inl (by decide)))
theorem cMl_5 (w : Int) : cMul 5 w = true := decide_eq_true (.inl (by decide))
theorem cDv_6 (w : Int) : cDiv w 6 = true := decide_eq_true ⟨by decide, by decide +kernel⟩
theorem cMd_6 (w : Int) : cMod w 6 = true := decide_eq_true (by decide)
theorem gDv_6 (w : Int) : gDiv w 6 = w / 6 := by unfold gDiv; rw [if_pos (by decide)]
theorem gMd_6 (w : Int) : gMod w 6 = w % 6 := by unfold gMod; rw [if_pos (by decide)]
theorem cMr_6 (w : Int) : cMul w 6 = true := decide_eq_true (.inr (.inl (by decide)))
theorem cMl_6 (w : Int) : cMul 6 w = true := decide_eq_true (.inl (by decide))
theorem cDv_7 (w : Int) : cDiv w 7 = true := decide_eq_true ⟨by decide, by decide +kernel⟩
theorem cMd_7 (w : Int) : cMod w 7 = true := decide_eq_true (by decide)
theorem gDv_7 (w : Int) : gDiv w 7 = w / 7 := by unfold gDiv; rw [if_pos (by decide)]
theorem gMd_7 (w : Int) : gMod w 7 = w % 7 := by unfold gMod; rw [if_pos (by decide)]
theorem cMr_7 (w : Int) : cMul w 7 = true := decide_eq_true (.inr (.inl (by decide)))
theorem cMl_7 (w : Int) : cMul 7 w = true := decide_eq_true (.inl (by decide))
theorem cDv_8 (w : Int) : cDiv w 8 = true := decide_eq_true ⟨by decide, by decide +kernel⟩
theorem cMd_8 (w : Int) : cMod w 8 = true := decide_eq_true (by decide)
theorem gDv_8 (w : Int) : gDiv w 8 = w / 8 := by unfold gDiv; rw [if_pos (by decide)]
theorem gMd_8 (w : Int) : gMod w 8 = w % 8 := by unfold gMod; rw [if_pos (by decide)]
theorem cMr_8 (w : Int) : cMul w 8 = true := decide_eq_true (.inr (.inl (by decide)))
theorem cMl_8 (w : Int) : cMul 8 w = true := decide_eq_true (.inl (by decide))
theorem cDv_12 (w : Int) : cDiv w 12 = true := decide_eq_true ⟨by decide, by decide +kernel⟩
theorem cMd_12 (w : Int) : cMod w 12 = true := decide_eq_true (by decide)
theorem gDv_12 (w : Int) : gDiv w 12 = w / 12 := by unfold gDiv; rw [if_pos (by decide)]
theorem gMd_12 (w : Int) : gMod w 12 = w % 12 := by unfold gMod; rw [if_pos (by decide)]
theorem cMr_12 (w : Int) : cMul w 12 = true := decide_eq_true (.inr (.inl (by decide)))
theorem cMl_12 (w : Int) : cMul 12 w = true := decide_eq_true (.inl (by decide))
theorem cDv_15 (w : Int) : cDiv w 15 = true := decide_eq_true ⟨by decide, by decide +kernel⟩
theorem cMd_15 (w : Int) : cMod w 15 = true := decide_eq_true (by decide)
theorem gDv_15 (w : Int) : gDiv w 15 = w / 15 := by unfold gDiv; rw [if_pos (by decide)]
theorem gMd_15 (w : Int) : gMod w 15 = w % 15 := by unfold gMod; rw [if_pos (by decide)]
theorem cMr_15 (w : Int) : cMul w 15 = true := decide_eq_true (.inr (.inl (by decide)))
theorem cMl_15 (w : Int) : cMul 15 w = true := decide_eq_true (.inl (by decide))
theorem cDv_30 (w : Int) : cDiv w 30 = true := decide_eq_true ⟨by decide, by decide +kernel⟩
theorem cMd_30 (w : Int) : cMod w 30 = true := decide_eq_true (by decide)
theorem gDv_30 (w : Int) : gDiv w 30 = w / 30 := by unfold gDiv; rw [if_pos (by decide)]
theorem gMd_30 (w : Int) : gMod w 30 = w % 30 := by unfold gMod; rw [if_pos (by decide)]
theorem cMr_30 (w : Int) : cMul w 30 = true := decide_eq_true (.inr (.inl (by decide)))
theorem cMl_30 (w : Int) : cMul 30 w = true := decide_eq_true (.inl (by decide))
theorem cDv_31 (w : Int) : cDiv w 31 = true := decide_eq_true ⟨by decide, by decide +kernel⟩
theorem cMd_31 (w : Int) : cMod w 31 = true := decide_eq_true (by decide)
theorem gDv_31 (w : Int) : gDiv w 31 = w / 31 := by unfold gDiv; rw [if_pos (by decide)]
theorem gMd_31 (w : Int) : gMod w 31 = w % 31 := by unfold gMod; rw [if_pos (by decide)]
theorem cMr_31 (w : Int) : cMul w 31 = true := decide_eq_true (.inr (.inl (by decide)))
theorem cMl_31 (w : Int) : cMul 31 w = true := decide_eq_true (.inl (by decide))
theorem cDv_40 (w : Int) : cDiv w 40 = true := decide_eq_true ⟨by decide, by decide +kernel⟩
theorem cMd_40 (w : Int) : cMod w 40 = true := decide_eq_true (by decide)
theorem gDv_40 (w : Int) : gDiv w 40 = w / 40 := by unfold gDiv; rw [if_pos (by decide)]
theorem gMd_40 (w : Int) : gMod w 40 = w % 40 := by unfold gMod; rw [if_pos (by decide)]
theorem cMr_40 (w : Int) : cMul w 40 = true := decide_eq_true (.inr (.inl (by decide)))
theorem cMl_40 (w : Int) : cMul 40 w = true := decide_eq_true (.inl (by decide))
theorem cDv_57 (w : Int) : cDiv w 57 = true := decide_eq_true ⟨by decide, by decide +kernel⟩
theorem cMd_57 (w : Int) : cMod w 57 = true := decide_eq_true (by decide)
theorem gDv_57 (w : Int) : gDiv w 57 = w / 57 := by unfold gDiv; rw [if_pos (by decide)]
theorem gMd_57 (w : Int) : gMod w 57 = w % 57 := by unfold gMod; rw [if_pos (by decide)]
theorem cMr_57 (w : Int) : cMul w 57 = true := decide_eq_true (.inr (.inl (by decide)))
theorem cMl_57 (w : Int) : cMul 57 w = true := decide_eq_true (.inl (by decide))
theorem cDv_60 (w : Int) : cDiv w 60 = true := decide_eq_true ⟨by decide, by decide +kernel⟩
theorem cMd_60 (w : Int) : cMod w 60 = true := decide_eq_true (by decide)
theorem gDv_60 (w : Int) : gDiv w 60 = w / 60 := by unfold gDiv; rw [if_pos (by decide)]
theorem gMd_60 (w : Int) : gMod w 60 = w % 60 := by unfold gMod; rw [if_pos (by decide)]
theorem cMr_60 (w : Int) : cMul w 60 = true := decide_eq_true (.inr (.inl (by decide)))
theorem cMl_60 (w : Int) : cMul 60 w = true := decide_eq_true (.inl (by decide))
theorem cDv_94 (w : Int) : cDiv w 94 = true := decide_eq_true ⟨by decide, by decide +kernel⟩
theorem cMd_94 (w : Int) : cMod w 94 = true := decide_eq_true (by decide)
theorem gDv_94 (w : Int) : gDiv w 94 = w / 94 := by unfold gDiv; rw [if_pos (by decide)]
theorem gMd_94 (w : Int) : gMod w 94 = w % 94 := by unfold gMod; rw [if_pos (by decide)]
theorem cMr_94 (w : Int) : cMul w 94 = true := decide_eq_true (.inr (.inl (by decide)))
theorem cMl_94 (w : Int) : cMul 94 w = true := decide_eq_true (.inl (by decide))
theorem cDv_240 (w : Int) : cDiv w 240 = true := decide_eq_true ⟨by decide, by decide +kernel⟩
theorem cMd_240 (w : Int) : cMod w 240 = true := decide_eq_true (by decide)
theorem gDv_240 (w : Int) : gDiv w 240 = w / 240 := by unfold gDiv; rw [if_pos (by decide)]
theorem gMd_240 (w : Int) : gMod w 240 = w % 240 := by unfold gMod; rw [if_pos (by decide)]
theorem cMr_240 (w : Int) : cMul w 240 = true := decide_eq_true (.inr (.inl (by decide)))
theorem cMl_240 (w : Int) : cMul 240 w = true := decide_eq_true (.inl (by decide))
theorem cDv_7919 (w : Int) : cDiv w 7919 = true := decide_eq_true ⟨by decide, by decide +kernel⟩
theorem cMd_7919 (w : Int) : cMod w 7919 = true := decide_eq_true (by decide)
theorem gDv_7919 (w : Int) : gDiv w 7919 = w / 7919 := by unfold gDiv; rw [if_pos (by decide)]
theorem gMd_7919 (w : Int) : gMod w 7919 = w % 7919 := by unfold gMod; rw [if_pos (by decide)]
theorem cMr_7919 (w : Int) : cMul w 7919 = true := decide_eq_true (.inr (.inl (by decide)))
theorem cMl_7919 (w : Int) : cMul 7919 w = true := decide_eq_true (.inl (by decide))
theorem cDv_16807 (w : Int) : cDiv w 16807 = true := decide_eq_true ⟨by decide, by decide +kernel⟩
theorem cMd_16807 (w : Int) : cMod w 16807 = true := decide_eq_true (by decide)
theorem gDv_16807 (w : Int) : gDiv w 16807 = w / 16807 := by unfold gDiv; rw [if_pos (by decide)]
theorem gMd_16807 (w : Int) : gMod w 16807 = w % 16807 := by unfold gMod; rw [if_pos (by decide)]
theorem cMr_16807 (w : Int) : cMul w 16807 = true := decide_eq_true (.inr (.inl (by decide)))
theorem cMl_16807 (w : Int) : cMul 16807 w = true := decide_eq_true (.inl (by decide))
theorem cDv_48271 (w : Int) : cDiv w 48271 = true := decide_eq_true ⟨by decide, by decide +kernel⟩
theorem cMd_48271 (w : Int) : cMod w 48271 = true := decide_eq_true (by decide)
theorem gDv_48271 (w : Int) : gDiv w 48271 = w / 48271 := by unfold gDiv; rw [if_pos (by decide)]
theorem gMd_48271 (w : Int) : gMod w 48271 = w % 48271 := by unfold gMod; rw [if_pos (by decide)]
theorem cMr_48271 (w : Int) : cMul w 48271 = true := decide_eq_true (.inr (.inl (by decide)))
theorem cMl_48271 (w : Int) : cMul 48271 w = true := decide_eq_true (.inl (by decide))
theorem cDv_1000000007 (w : Int) : cDiv w 1000000007 = true := decide_eq_true ⟨by decide, by decide +kernel⟩
theorem cMd_1000000007 (w : Int) : cMod w 1000000007 = true := decide_eq_true (by decide)
theorem gDv_1000000007 (w : Int) : gDiv w 1000000007 = w / 1000000007 := by unfold gDiv; rw [if_pos (by decide)]
theorem gMd_1000000007 (w : Int) : gMod w 1000000007 = w % 1000000007 := by unfold gMod; rw [if_pos (by decide)]
theorem cMr_1000000007 (w : Int) : cMul w 1000000007 = true := decide_eq_true (.inr (.inl (by decide)))
theorem cMl_1000000007 (w : Int) : cMul 1000000007 w = true := decide_eq_true (.inl (by decide))
theorem cDv_2147483629 (w : Int) : cDiv w 2147483629 = true := decide_eq_true ⟨by decide, by decide +kernel⟩
theorem cMd_2147483629 (w : Int) : cMod w 2147483629 = true := decide_eq_true (by decide)
theorem gDv_2147483629 (w : Int) : gDiv w 2147483629 = w / 2147483629 := by unfold gDiv; rw [if_pos (by decide)]
theorem gMd_2147483629 (w : Int) : gMod w 2147483629 = w % 2147483629 := by unfold gMod; rw [if_pos (by decide)]
theorem cMr_2147483629 (w : Int) : cMul w 2147483629 = true := decide_eq_true (.inr (.inl (by decide)))
theorem cMl_2147483629 (w : Int) : cMul 2147483629 w = true := decide_eq_true (.inl (by decide))
theorem cDv_2147483647 (w : Int) : cDiv w 2147483647 = true := decide_eq_true ⟨by decide, by decide +kernel⟩
theorem cMd_2147483647 (w : Int) : cMod w 2147483647 = true := decide_eq_true (by decide)
theorem gDv_2147483647 (w : Int) : gDiv w 2147483647 = w / 2147483647 := by unfold gDiv; rw [if_pos (by decide)]
theorem gMd_2147483647 (w : Int) : gMod w 2147483647 = w % 2147483647 := by unfold gMod; rw [if_pos (by decide)]
theorem cMr_2147483647 (w : Int) : cMul w 2147483647 = true := decide_eq_true (.inr (.inl (by decide)))
theorem cMl_2147483647 (w : Int) : cMul 2147483647 w = true := decide_eq_true (.inl (by decide))
theorem mkS_beq (l m : List Nat) : (mkS l == mkS m) = decide (l = m) := by
  by_cases h : l = m
  · subst h
    simp
  · rw [decide_eq_false h]
    exact beq_eq_false_iff_ne.mpr fun z => h (mkS_inj z)
theorem eq_str (st : Sto) (l m : List Nat) : eqO st (.str l) (.str m) = some (decide (l = m)) := by
  simp [eqO, DEEP, toP, PyData.eqv, mkS_beq]
theorem atI0 {α : Type} (x : α) (r : List α) : L2.atI (x :: r) 0 = some x := L2.atI_nat (j := 0) rfl
theorem atI1 {α : Type} (x y : α) (r : List α) : L2.atI (x :: y :: r) 1 = some y := L2.atI_nat (j := 1) rfl
theorem lim1 {k : Nat} (h : k ≤ 100000) : k ≤ LIM := by
  unfold LIM
  omega
theorem in_tup (st : Sto) (l : List Nat) (ls : List (List Nat)) : inO st (.str l) (.tup (ls.map D.str)) = some (decide (l ∈ ls)) := by
  have e : ∀ ls : List (List Nat), mapO (toP st DEEP) (ls.map D.str) = some (ls.map fun m => PyData.str (mkS m)) := fun ls => by
    induction ls with
    | nil => rfl
    | cons a r ih =>
      show (toP st DEEP (.str a)).bind _ = _
      rw [show toP st DEEP (.str a) = some (.str (mkS a)) from rfl, Option.bind_some, ih]
      rfl
  have p : toP st DEEP (.str l) = some (.str (mkS l)) := rfl
  show inD st (.str l) (ls.map D.str) = _
  unfold inD
  rw [p, e]
  simp only
  congr 1
  induction ls with
  | nil => rfl
  | cons a r ih =>
    rw [List.map_cons, List.any_cons, ih]
    have : PyData.eqv (.str (mkS a)) (.str (mkS l)) = decide (l = a) := by
      simp only [PyData.eqv, mkS_beq]
      by_cases h : a = l
      · subst h
        rfl
      · rw [decide_eq_false h, decide_eq_false (fun z => h z.symm)]
    rw [this]
    by_cases h : l = a
    · simp [h]
    · by_cases h2 : l ∈ r
      · simp [h2]
      · simp [h, h2]
theorem in_ref (st : Sto) (l : List Nat) {k : Nat} {ls : List (List Nat)} (h : rdL st k = some (ls.map D.str)) : inO st (.str l) (.ref k) = some (decide (l ∈ ls)) := by
  have := in_tup st l ls
  unfold inO at this ⊢
  simp only [h]
  exact this
theorem in_one (st : Sto) (c : Nat) (m : List Nat) : inO st (.str [c]) (.str m) = some (decide (c ∈ m)) := by
  show some (subS [c] m) = _
  rw [subS_one]
abbrev LET : List Nat := [97, 98, 99, 100, 101, 102, 103, 104, 105, 106, 107, 108, 109, 110, 111, 112, 113, 114, 115, 116, 117, 118, 119, 120, 121, 122, 65, 66, 67, 68, 69, 70, 71, 72, 73, 74, 75, 76, 77, 78, 79, 80, 81, 82, 83, 84, 85, 86, 87, 88, 89, 90]
abbrev FIG : List Nat := [48, 49, 50, 51, 52, 53, 54, 55, 56, 57]
abbrev LF : List Nat := [97, 98, 99, 100, 101, 102, 103, 104, 105, 106, 107, 108, 109, 110, 111, 112, 113, 114, 115, 116, 117, 118, 119, 120, 121, 122, 65, 66, 67, 68, 69, 70, 71, 72, 73, 74, 75, 76, 77, 78, 79, 80, 81, 82, 83, 84, 85, 86, 87, 88, 89, 90, 48, 49, 50, 51, 52, 53, 54, 55, 56, 57]
abbrev LFU : List Nat := [97, 98, 99, 100, 101, 102, 103, 104, 105, 106, 107, 108, 109, 110, 111, 112, 113, 114, 115, 116, 117, 118, 119, 120, 121, 122, 65, 66, 67, 68, 69, 70, 71, 72, 73, 74, 75, 76, 77, 78, 79, 80, 81, 82, 83, 84, 85, 86, 87, 88, 89, 90, 48, 49, 50, 51, 52, 53, 54, 55, 56, 57, 95]
def isW (c : Nat) : Bool := decide (c ∈ LFU)
theorem ad_lf (st : Sto) : opAdd (.str LET) (.str FIG) st = some (.str LF, st) := rfl
theorem ad_lfu (st : Sto) : opAdd (.str LF) (.str [95]) st = some (.str LFU, st) := rfl
theorem len_str (l : List Nat) (h : l.length ≤ 100000) (st : Sto) : lenO (.str l) st = some (.int (l.length : Nat)) := by
  unfold lenO
  simp only
  rw [if_pos (lim1 h)]
theorem ix_pre (pre : List Nat) (c : Nat) (r : List Nat) (hl : (pre ++ c :: r).length ≤ 100000) (st : Sto) : ixO (.str (pre ++ c :: r)) (.int (pre.length : Nat)) st = some (.str [c]) := by
  rw [ixO_str (lim1 hl), L2.atI_nat (j := pre.length) (v := c) (by simp)]
  rfl
theorem cut_pre (pre mid r : List Nat) (a b : Int) (ha : a = (pre.length : Nat)) (hb : b = ((pre ++ mid).length : Nat)) : cutG (pre ++ (mid ++ r)) (some a) (some b) = mid := by
  subst ha hb
  unfold cutG
  rw [HT.sIx_nat, HT.sIx_nat]
  have h1 : min pre.length (pre ++ (mid ++ r)).length = pre.length := by
    rw [List.length_append]
    omega
  have h2 : min (pre ++ mid).length (pre ++ (mid ++ r)).length = pre.length + mid.length := by
    simp only [List.length_append]
    omega
  rw [h1, h2, List.drop_left, Nat.add_sub_cancel_left, List.take_left]
theorem run_loop (k : Nat) (st : Sto) : ∀ (suf pre : List Nat) (x : D), (pre ++ suf).length ≤ 100000 → loopW tW_run_at_1 uW_run_at_2 ((suf.takeWhile isW).length + 1 + k) [some (.str (pre ++ suf)), some x, some (.int (pre.length : Nat))] st = some (.nx, [some (.str (pre ++ suf)), some x, some (.int ((pre.length + (suf.takeWhile isW).length : Nat) : Int))], st)
  | [], pre, x, hl => by
    rw [List.takeWhile_nil, List.length_nil, Nat.zero_add, Nat.add_comm 1 k, Nat.add_zero]
    refine loopW_stop (st' := st) ?_
    have c : ¬ ((pre.length : Int) < ((pre ++ ([] : List Nat)).length : Int)) := by simp
    simp only [tW_run_at_1, eVar_at, kVar_some, eC_at, eBin_at, k2_some, k3_some, eUn_at, k1_some, kVal_some, kBl_some, kEq_at, kBlN_some, kNe_at, kIn_at, kNotIn_at, kIx_at, ixO_tup, kLt_int, kLe_int, kGt_int, kGe_int, kLt_str, kLe_str, kGt_str, kGe_str, kIs_non, kIs_bl, kIs_int, kIs_str, kIs_tup, kIs_ref, kIsNot_non, kIsNot_bl, kIsNot_int, kIsNot_str, kIsNot_tup, kIsNot_ref, opAdd_int, opAdd_str, opSub_int, opMul_int, opDiv_int, opMod_int, opPow_int, opAnd_int, opOr_int, opNeg_int, eChain_at, kc1_some, kc2_some, kc3_true, kc3_false, kc4_some, tOf_at, kTru_some, kTru2_some, truD_non, truD_bl, truD_int, truD_tup, tAnd_at, kAnd_true, kAnd_false, tOr_at, kOr_true, kOr_false, tNot_at, kNot_some, tYes_at, eAnd_at, keAnd_some, keAnd2_true, keAnd2_false, eOr_at, keOr_some, keOr2_true, keOr2_false, eNot_at, keNot_some, keNot2_some, eIf_at, keIf_true, keIf_false, aNil_at, aCons_at, ka1_some, ka2_some, eTup_at, kTup_0, kTup_1, kTup_2, kTup_3, kTup_4, kTup_5, kTup_6, eLst_at, kLst_0, kLst_1, kLst_2, kLst_3, kLst_4, eDic0_at, eCall_at, kCall_some, o1_at, isiO_at, kIsi_some, tyD_non, tyD_bl, tyD_int, tyD_str, tyD_tup, eBM_at, kbm1_some, kbm2_some, eSl_at, ks2_some, ks3_some, ks4_some, oNone_at, oSome_at, kSome_int, slO_str, sSeq_at, kSeq_nx, kSeq_rt, kSeq_bk, kSeq_ct, sNext_at, sBreak_at, sCont_at, sRetN_at, sRet_at, kRet_some, sExpr_at, kExpr_some, sSet_at, kSet_some, sIf_at, kIf_true, kIf_false, sPar2_k, kPar2_some, sPar3_k, kPar3_some, sAsg_at, kAsg_some, kAsg2_some, mName_at, mTup_2, mTup_3, mCons_at, kmCons_some, mNil_at, sPut_at, kp1_some, kp2_some, kp3_some, kp4_some, kFn_rt, kFn_nx, mkFn_0, mkFn_1, mkFn_2, mkFn_3, mkFn_4, mkFn_5, sWhile_at, List.getElem?_cons_zero, List.getElem?_cons_succ, List.set_cons_zero, List.set_cons_succ, List.replicate_succ, List.replicate_zero, Nat.reduceSub, Bool.not_true, Bool.not_false, ite_true, ite_false, if_true, if_false, reduceCtorEq, fldM_at, sFldM_at, kSF1_some, kSF2_some, kSF3_some, sFldAddM_at, kSA1_some, kSA2_int, eMake_at, kMk1_some, kMk2_some, isCM_at, isCO_non, eGet1_at, kG12_some, kG13_some, eGet2_at, kG22_some, kG23_some, eCallD_at, kCallD_some, eKdx_at, kKdx_some, kIsB_at, kEqE_at, kNeE_at, kInN_at, minF_at, dictF_at, atI0, atI1, eq_str, ixO_tup, lenO_tup, mTup_2, List.cons.injEq, Nat.reduceEqDiff, decide_false, decide_true, and_false, and_true, false_and, true_and, Bool.or_false, Bool.or_true, Bool.true_or, Bool.false_or, Bool.and_true, Bool.and_false, Bool.false_and, Bool.true_and, eReprC_at, kRep2_some, kRep3_some, Int.reduceLE, Int.reduceLT, len_str _ hl, c, decide_false]
  | c :: r, pre, x, hl => by
    have h1 := ix_pre pre c r hl st
    have c1 : (pre.length : Int) < ((pre ++ c :: r).length : Int) := by
      rw [List.length_append, List.length_cons]
      omega
    have h2 := in_one st c LFU
    have ht : tW_run_at_1 [some (.str (pre ++ c :: r)), some x, some (.int (pre.length : Nat))] st = some (isW c, st) := by
      unfold isW
      simp only [tW_run_at_1, eVar_at, kVar_some, eC_at, eBin_at, k2_some, k3_some, eUn_at, k1_some, kVal_some, kBl_some, kEq_at, kBlN_some, kNe_at, kIn_at, kNotIn_at, kIx_at, ixO_tup, kLt_int, kLe_int, kGt_int, kGe_int, kLt_str, kLe_str, kGt_str, kGe_str, kIs_non, kIs_bl, kIs_int, kIs_str, kIs_tup, kIs_ref, kIsNot_non, kIsNot_bl, kIsNot_int, kIsNot_str, kIsNot_tup, kIsNot_ref, opAdd_int, opAdd_str, opSub_int, opMul_int, opDiv_int, opMod_int, opPow_int, opAnd_int, opOr_int, opNeg_int, eChain_at, kc1_some, kc2_some, kc3_true, kc3_false, kc4_some, tOf_at, kTru_some, kTru2_some, truD_non, truD_bl, truD_int, truD_tup, tAnd_at, kAnd_true, kAnd_false, tOr_at, kOr_true, kOr_false, tNot_at, kNot_some, tYes_at, eAnd_at, keAnd_some, keAnd2_true, keAnd2_false, eOr_at, keOr_some, keOr2_true, keOr2_false, eNot_at, keNot_some, keNot2_some, eIf_at, keIf_true, keIf_false, aNil_at, aCons_at, ka1_some, ka2_some, eTup_at, kTup_0, kTup_1, kTup_2, kTup_3, kTup_4, kTup_5, kTup_6, eLst_at, kLst_0, kLst_1, kLst_2, kLst_3, kLst_4, eDic0_at, eCall_at, kCall_some, o1_at, isiO_at, kIsi_some, tyD_non, tyD_bl, tyD_int, tyD_str, tyD_tup, eBM_at, kbm1_some, kbm2_some, eSl_at, ks2_some, ks3_some, ks4_some, oNone_at, oSome_at, kSome_int, slO_str, sSeq_at, kSeq_nx, kSeq_rt, kSeq_bk, kSeq_ct, sNext_at, sBreak_at, sCont_at, sRetN_at, sRet_at, kRet_some, sExpr_at, kExpr_some, sSet_at, kSet_some, sIf_at, kIf_true, kIf_false, sPar2_k, kPar2_some, sPar3_k, kPar3_some, sAsg_at, kAsg_some, kAsg2_some, mName_at, mTup_2, mTup_3, mCons_at, kmCons_some, mNil_at, sPut_at, kp1_some, kp2_some, kp3_some, kp4_some, kFn_rt, kFn_nx, mkFn_0, mkFn_1, mkFn_2, mkFn_3, mkFn_4, mkFn_5, sWhile_at, List.getElem?_cons_zero, List.getElem?_cons_succ, List.set_cons_zero, List.set_cons_succ, List.replicate_succ, List.replicate_zero, Nat.reduceSub, Bool.not_true, Bool.not_false, ite_true, ite_false, if_true, if_false, reduceCtorEq, fldM_at, sFldM_at, kSF1_some, kSF2_some, kSF3_some, sFldAddM_at, kSA1_some, kSA2_int, eMake_at, kMk1_some, kMk2_some, isCM_at, isCO_non, eGet1_at, kG12_some, kG13_some, eGet2_at, kG22_some, kG23_some, eCallD_at, kCallD_some, eKdx_at, kKdx_some, kIsB_at, kEqE_at, kNeE_at, kInN_at, minF_at, dictF_at, atI0, atI1, eq_str, ixO_tup, lenO_tup, mTup_2, List.cons.injEq, Nat.reduceEqDiff, decide_false, decide_true, and_false, and_true, false_and, true_and, Bool.or_false, Bool.or_true, Bool.true_or, Bool.false_or, Bool.and_true, Bool.and_false, Bool.false_and, Bool.true_and, eReprC_at, kRep2_some, kRep3_some, Int.reduceLE, Int.reduceLT, len_str _ hl, c1, decide_true, h1, ad_lf, ad_lfu, h2, -opAdd_str]
    cases hc : isW c with
    | false =>
      rw [List.takeWhile_cons_of_neg (by rw [hc]; exact Bool.false_ne_true), List.length_nil, Nat.zero_add, Nat.add_comm 1 k, Nat.add_zero]
      rw [hc] at ht
      exact loopW_stop ht
    | true =>
      rw [hc] at ht
      rw [List.takeWhile_cons_of_pos hc, List.length_cons, show (r.takeWhile isW).length + 1 + 1 + k = (r.takeWhile isW).length + 1 + k + 1 by omega]
      have hu : uW_run_at_2 [some (.str (pre ++ c :: r)), some x, some (.int (pre.length : Nat))] st = some (.nx, [some (.str (pre ++ c :: r)), some x, some (.int ((pre ++ [c]).length : Nat))], st) := by
        have : ((pre ++ [c]).length : Int) = (pre.length : Int) + 1 := by simp
        simp only [uW_run_at_2, eVar_at, kVar_some, eC_at, eBin_at, k2_some, k3_some, eUn_at, k1_some, kVal_some, kBl_some, kEq_at, kBlN_some, kNe_at, kIn_at, kNotIn_at, kIx_at, ixO_tup, kLt_int, kLe_int, kGt_int, kGe_int, kLt_str, kLe_str, kGt_str, kGe_str, kIs_non, kIs_bl, kIs_int, kIs_str, kIs_tup, kIs_ref, kIsNot_non, kIsNot_bl, kIsNot_int, kIsNot_str, kIsNot_tup, kIsNot_ref, opAdd_int, opAdd_str, opSub_int, opMul_int, opDiv_int, opMod_int, opPow_int, opAnd_int, opOr_int, opNeg_int, eChain_at, kc1_some, kc2_some, kc3_true, kc3_false, kc4_some, tOf_at, kTru_some, kTru2_some, truD_non, truD_bl, truD_int, truD_tup, tAnd_at, kAnd_true, kAnd_false, tOr_at, kOr_true, kOr_false, tNot_at, kNot_some, tYes_at, eAnd_at, keAnd_some, keAnd2_true, keAnd2_false, eOr_at, keOr_some, keOr2_true, keOr2_false, eNot_at, keNot_some, keNot2_some, eIf_at, keIf_true, keIf_false, aNil_at, aCons_at, ka1_some, ka2_some, eTup_at, kTup_0, kTup_1, kTup_2, kTup_3, kTup_4, kTup_5, kTup_6, eLst_at, kLst_0, kLst_1, kLst_2, kLst_3, kLst_4, eDic0_at, eCall_at, kCall_some, o1_at, isiO_at, kIsi_some, tyD_non, tyD_bl, tyD_int, tyD_str, tyD_tup, eBM_at, kbm1_some, kbm2_some, eSl_at, ks2_some, ks3_some, ks4_some, oNone_at, oSome_at, kSome_int, slO_str, sSeq_at, kSeq_nx, kSeq_rt, kSeq_bk, kSeq_ct, sNext_at, sBreak_at, sCont_at, sRetN_at, sRet_at, kRet_some, sExpr_at, kExpr_some, sSet_at, kSet_some, sIf_at, kIf_true, kIf_false, sPar2_k, kPar2_some, sPar3_k, kPar3_some, sAsg_at, kAsg_some, kAsg2_some, mName_at, mTup_2, mTup_3, mCons_at, kmCons_some, mNil_at, sPut_at, kp1_some, kp2_some, kp3_some, kp4_some, kFn_rt, kFn_nx, mkFn_0, mkFn_1, mkFn_2, mkFn_3, mkFn_4, mkFn_5, sWhile_at, List.getElem?_cons_zero, List.getElem?_cons_succ, List.set_cons_zero, List.set_cons_succ, List.replicate_succ, List.replicate_zero, Nat.reduceSub, Bool.not_true, Bool.not_false, ite_true, ite_false, if_true, if_false, reduceCtorEq, fldM_at, sFldM_at, kSF1_some, kSF2_some, kSF3_some, sFldAddM_at, kSA1_some, kSA2_int, eMake_at, kMk1_some, kMk2_some, isCM_at, isCO_non, eGet1_at, kG12_some, kG13_some, eGet2_at, kG22_some, kG23_some, eCallD_at, kCallD_some, eKdx_at, kKdx_some, kIsB_at, kEqE_at, kNeE_at, kInN_at, minF_at, dictF_at, atI0, atI1, eq_str, ixO_tup, lenO_tup, mTup_2, List.cons.injEq, Nat.reduceEqDiff, decide_false, decide_true, and_false, and_true, false_and, true_and, Bool.or_false, Bool.or_true, Bool.true_or, Bool.false_or, Bool.and_true, Bool.and_false, Bool.false_and, Bool.true_and, eReprC_at, kRep2_some, kRep3_some, Int.reduceLE, Int.reduceLT, this]
      rw [loopW_go ht hu]
      have ih := run_loop k st r (pre ++ [c]) x (by rw [List.append_assoc]; exact hl)
      rw [List.append_assoc] at ih
      have e2 : (pre ++ [c]).length + (r.takeWhile isW).length = pre.length + ((r.takeWhile isW).length + 1) := by
        rw [List.length_append, List.length_singleton]
        omega
      rw [e2] at ih
      exact ih
theorem fuel_ok {n : Nat} (h : n ≤ 200000) : n ≤ FUEL := by
  unfold FUEL
  omega
theorem tw_le (l : List Nat) : (l.takeWhile isW).length ≤ l.length := (List.takeWhile_prefix isW).length_le
theorem run_at (pre suf : List Nat) (hl : (pre ++ suf).length ≤ 100000) (st : Sto) : F_run_at [.str (pre ++ suf), .int (pre.length : Nat)] st = some (.str (suf.takeWhile isW), st) := by
  have t := tw_le suf
  have hl2 := hl
  rw [List.length_append] at hl2
  have w := sWhile_of (t := tW_run_at_1) (u := uW_run_at_2) (n := (suf.takeWhile isW).length + 1) (ρ := [some (.str (pre ++ suf)), some (.int (pre.length : Nat)), some (.int (pre.length : Nat))]) (st := st) (fuel_ok (by omega)) fun k => run_loop k st suf pre _ hl
  have hs : cutG (pre ++ suf) (some (pre.length : Nat)) (some ((pre.length + (suf.takeWhile isW).length : Nat) : Int)) = suf.takeWhile isW := by
    have := cut_pre pre (suf.takeWhile isW) (suf.dropWhile isW) (pre.length : Nat) ((pre.length + (suf.takeWhile isW).length : Nat) : Int) rfl (by rw [List.length_append])
    rw [List.takeWhile_append_dropWhile] at this
    exact this
  have lm : (pre ++ suf).length ≤ LIM := lim1 hl
  simp only [F_run_at, b_run_at, eVar_at, kVar_some, eC_at, eBin_at, k2_some, k3_some, eUn_at, k1_some, kVal_some, kBl_some, kEq_at, kBlN_some, kNe_at, kIn_at, kNotIn_at, kIx_at, ixO_tup, kLt_int, kLe_int, kGt_int, kGe_int, kLt_str, kLe_str, kGt_str, kGe_str, kIs_non, kIs_bl, kIs_int, kIs_str, kIs_tup, kIs_ref, kIsNot_non, kIsNot_bl, kIsNot_int, kIsNot_str, kIsNot_tup, kIsNot_ref, opAdd_int, opAdd_str, opSub_int, opMul_int, opDiv_int, opMod_int, opPow_int, opAnd_int, opOr_int, opNeg_int, eChain_at, kc1_some, kc2_some, kc3_true, kc3_false, kc4_some, tOf_at, kTru_some, kTru2_some, truD_non, truD_bl, truD_int, truD_tup, tAnd_at, kAnd_true, kAnd_false, tOr_at, kOr_true, kOr_false, tNot_at, kNot_some, tYes_at, eAnd_at, keAnd_some, keAnd2_true, keAnd2_false, eOr_at, keOr_some, keOr2_true, keOr2_false, eNot_at, keNot_some, keNot2_some, eIf_at, keIf_true, keIf_false, aNil_at, aCons_at, ka1_some, ka2_some, eTup_at, kTup_0, kTup_1, kTup_2, kTup_3, kTup_4, kTup_5, kTup_6, eLst_at, kLst_0, kLst_1, kLst_2, kLst_3, kLst_4, eDic0_at, eCall_at, kCall_some, o1_at, isiO_at, kIsi_some, tyD_non, tyD_bl, tyD_int, tyD_str, tyD_tup, eBM_at, kbm1_some, kbm2_some, eSl_at, ks2_some, ks3_some, ks4_some, oNone_at, oSome_at, kSome_int, slO_str, sSeq_at, kSeq_nx, kSeq_rt, kSeq_bk, kSeq_ct, sNext_at, sBreak_at, sCont_at, sRetN_at, sRet_at, kRet_some, sExpr_at, kExpr_some, sSet_at, kSet_some, sIf_at, kIf_true, kIf_false, sPar2_k, kPar2_some, sPar3_k, kPar3_some, sAsg_at, kAsg_some, kAsg2_some, mName_at, mTup_2, mTup_3, mCons_at, kmCons_some, mNil_at, sPut_at, kp1_some, kp2_some, kp3_some, kp4_some, kFn_rt, kFn_nx, mkFn_0, mkFn_1, mkFn_2, mkFn_3, mkFn_4, mkFn_5, sWhile_at, List.getElem?_cons_zero, List.getElem?_cons_succ, List.set_cons_zero, List.set_cons_succ, List.replicate_succ, List.replicate_zero, Nat.reduceSub, Bool.not_true, Bool.not_false, ite_true, ite_false, if_true, if_false, reduceCtorEq, fldM_at, sFldM_at, kSF1_some, kSF2_some, kSF3_some, sFldAddM_at, kSA1_some, kSA2_int, eMake_at, kMk1_some, kMk2_some, isCM_at, isCO_non, eGet1_at, kG12_some, kG13_some, eGet2_at, kG22_some, kG23_some, eCallD_at, kCallD_some, eKdx_at, kKdx_some, kIsB_at, kEqE_at, kNeE_at, kInN_at, minF_at, dictF_at, atI0, atI1, eq_str, ixO_tup, lenO_tup, mTup_2, List.cons.injEq, Nat.reduceEqDiff, decide_false, decide_true, and_false, and_true, false_and, true_and, Bool.or_false, Bool.or_true, Bool.true_or, Bool.false_or, Bool.and_true, Bool.and_false, Bool.false_and, Bool.true_and, eReprC_at, kRep2_some, kRep3_some, Int.reduceLE, Int.reduceLT, w, slO_str, lm, hs, -sWhile_at]
end Math

set_option maxRecDepth 100000
set_option maxHeartbeats 4000000
namespace Math
open MP Text PySem
theorem eLc_CM {α : Type} {chk : Sto → Prop} {fi : MI} {m : MG} {t : MT} {f : ME} {vs0 : List Nat} {ρ : Rho} {st0 st : Sto} {l : List α} {g : α → D} {b : α → Bool} {φ : α → D} (hi : fi ρ st0 = some ((l.map g, chk), st)) (hk : ∀ acc, chk (st ++ [.lst acc]))
    (h : ∀ a ∈ l, ∀ acc, ∃ ρ1, m (g a) (wipeD ρ vs0) = some ρ1 ∧ t ρ1 (st ++ [.lst acc]) = some (b a, st ++ [.lst acc]) ∧ (b a = true → f ρ1 (st ++ [.lst acc]) = some (φ a, st ++ [.lst acc])))
    (hl : l.length ≤ LIM) : eLc vs0 fi m t f ρ st0 = some (.ref st.length, st ++ [.lst ((l.filter b).map φ)]) := by
  have go : ∀ (l : List α) (acc : List D), (∀ a ∈ l, ∀ acc, ∃ ρ1, m (g a) (wipeD ρ vs0) = some ρ1 ∧ t ρ1 (st ++ [.lst acc]) = some (b a, st ++ [.lst acc]) ∧ (b a = true → f ρ1 (st ++ [.lst acc]) = some (φ a, st ++ [.lst acc]))) → acc.length + l.length ≤ LIM →
      loopC chk m t f (wipeD ρ vs0) st.length (l.map g) (st ++ [.lst acc]) = some (st ++ [.lst (acc ++ (l.filter b).map φ)]) := fun l => by
    induction l with
    | nil =>
      intro acc _ _
      rw [List.map_nil]
      unfold loopC
      rw [if_pos (hk acc)]
      simp
    | cons a r ih =>
      intro acc h hl
      rw [List.length_cons] at hl
      obtain ⟨ρ1, e1, e2, h3⟩ := h a (.head _) acc
      have hr := fun a' ha => h a' (List.mem_cons_of_mem _ ha)
      rw [List.map_cons]
      unfold loopC
      rw [if_pos (hk acc), e1, Option.bind_some, e2, Option.bind_some]
      cases hb : b a with
      | false =>
        simp only [Bool.false_eq_true, if_false]
        rw [ih acc hr (by omega), List.filter_cons_of_neg (by rw [hb]; exact Bool.false_ne_true)]
      | true =>
        simp only [if_true]
        rw [h3 hb, Option.bind_some]
        simp only [myL_end]
        rw [if_pos (by omega), set_end, ih (acc ++ [φ a]) hr (by rw [List.length_append, List.length_singleton]; omega), List.filter_cons_of_pos hb]
        simp
  unfold eLc
  rw [hi, Option.bind_some]
  show Option.map _ (loopC chk m t f (wipeD ρ vs0) st.length (l.map g) (st ++ [.lst []])) = _
  rw [go l [] h (by simpa using hl)]
  rfl
theorem isa_str : ([Ty.str].any fun n => Ty.str.isa n) = true := rfl
theorem isa_bl_int : ([Ty.bl].any fun n => Ty.int.isa n) = false := rfl
theorem isa_bl_non : ([Ty.bl].any fun n => Ty.non.isa n) = false := rfl
theorem isa_lst : ([Ty.lst].any fun n => Ty.lst.isa n) = true := rfl
abbrev T1 : List (List Nat) := [[97, 110, 100], [97, 115], [98, 114, 101, 97, 107], [99, 108, 97, 115, 115], [99, 111, 110, 116, 105, 110, 117, 101], [100, 101, 102], [101, 108, 105, 102], [101, 108, 115, 101], [101, 120, 99, 101, 112, 116], [70, 97, 108, 115, 101], [102, 105, 110, 97, 108, 108, 121], [102, 111, 114], [102, 114, 111, 109]]
abbrev T2 : List (List Nat) := [[103, 108, 111, 98, 97, 108], [105, 102], [105, 110], [78, 111, 110, 101], [110, 111, 110, 108, 111, 99, 97, 108], [110, 111, 116], [111, 114], [112, 97, 115, 115], [114, 97, 105, 115, 101], [114, 101, 116, 117, 114, 110], [84, 114, 117, 101], [116, 114, 121], [119, 104, 105, 108, 101]]
def TL0 : List (List Nat) := T1 ++ T2 ++ [[121, 105, 101, 108, 100]]
def isT (l : List Nat) : Bool := decide (l ∈ TL0)
theorem told_is (l : List Nat) (st : Sto) : F_is_told [.str l] st = some (.bl (isT l), st) := by
  have i1 : inO st (.str l) (.tup [.str [97, 110, 100], .str [97, 115], .str [98, 114, 101, 97, 107], .str [99, 108, 97, 115, 115], .str [99, 111, 110, 116, 105, 110, 117, 101], .str [100, 101, 102], .str [101, 108, 105, 102], .str [101, 108, 115, 101], .str [101, 120, 99, 101, 112, 116], .str [70, 97, 108, 115, 101], .str [102, 105, 110, 97, 108, 108, 121], .str [102, 111, 114], .str [102, 114, 111, 109]]) = some (decide (l ∈ T1)) := in_tup st l T1
  have i2 : inO st (.str l) (.tup [.str [103, 108, 111, 98, 97, 108], .str [105, 102], .str [105, 110], .str [78, 111, 110, 101], .str [110, 111, 110, 108, 111, 99, 97, 108], .str [110, 111, 116], .str [111, 114], .str [112, 97, 115, 115], .str [114, 97, 105, 115, 101], .str [114, 101, 116, 117, 114, 110], .str [84, 114, 117, 101], .str [116, 114, 121], .str [119, 104, 105, 108, 101]]) = some (decide (l ∈ T2)) := in_tup st l T2
  have e : isT l = (decide (l ∈ T1) || (decide (l ∈ T2) || decide (l = [121, 105, 101, 108, 100]))) := by
    unfold isT TL0
    rw [Bool.eq_iff_iff]
    simp only [List.mem_append, List.mem_singleton, decide_eq_true_eq, Bool.or_eq_true]
    constructor
    · rintro ((h | h) | h)
      · exact .inl h
      · exact .inr (.inl h)
      · exact .inr (.inr h)
    · rintro (h | h | h)
      · exact .inl (.inl h)
      · exact .inl (.inr h)
      · exact .inr h
  rw [e]
  cases h1 : decide (l ∈ T1) with
  | true =>
    rw [h1] at i1
    simp only [F_is_told, b_is_told, eVar_at, kVar_some, eC_at, eBin_at, k2_some, k3_some, eUn_at, k1_some, kVal_some, kBl_some, kEq_at, kBlN_some, kNe_at, kIn_at, kNotIn_at, kIx_at, ixO_tup, kLt_int, kLe_int, kGt_int, kGe_int, kLt_str, kLe_str, kGt_str, kGe_str, kIs_non, kIs_bl, kIs_int, kIs_str, kIs_tup, kIs_ref, kIsNot_non, kIsNot_bl, kIsNot_int, kIsNot_str, kIsNot_tup, kIsNot_ref, opAdd_int, opAdd_str, opSub_int, opMul_int, opDiv_int, opMod_int, opPow_int, opAnd_int, opOr_int, opNeg_int, eChain_at, kc1_some, kc2_some, kc3_true, kc3_false, kc4_some, tOf_at, kTru_some, kTru2_some, truD_non, truD_bl, truD_int, truD_tup, tAnd_at, kAnd_true, kAnd_false, tOr_at, kOr_true, kOr_false, tNot_at, kNot_some, tYes_at, eAnd_at, keAnd_some, keAnd2_true, keAnd2_false, eOr_at, keOr_some, keOr2_true, keOr2_false, eNot_at, keNot_some, keNot2_some, eIf_at, keIf_true, keIf_false, aNil_at, aCons_at, ka1_some, ka2_some, eTup_at, kTup_0, kTup_1, kTup_2, kTup_3, kTup_4, kTup_5, kTup_6, eLst_at, kLst_0, kLst_1, kLst_2, kLst_3, kLst_4, eDic0_at, eCall_at, kCall_some, o1_at, isiO_at, kIsi_some, tyD_non, tyD_bl, tyD_int, tyD_str, tyD_tup, eBM_at, kbm1_some, kbm2_some, eSl_at, ks2_some, ks3_some, ks4_some, oNone_at, oSome_at, kSome_int, slO_str, sSeq_at, kSeq_nx, kSeq_rt, kSeq_bk, kSeq_ct, sNext_at, sBreak_at, sCont_at, sRetN_at, sRet_at, kRet_some, sExpr_at, kExpr_some, sSet_at, kSet_some, sIf_at, kIf_true, kIf_false, sPar2_k, kPar2_some, sPar3_k, kPar3_some, sAsg_at, kAsg_some, kAsg2_some, mName_at, mTup_2, mTup_3, mCons_at, kmCons_some, mNil_at, sPut_at, kp1_some, kp2_some, kp3_some, kp4_some, kFn_rt, kFn_nx, mkFn_0, mkFn_1, mkFn_2, mkFn_3, mkFn_4, mkFn_5, sWhile_at, List.getElem?_cons_zero, List.getElem?_cons_succ, List.set_cons_zero, List.set_cons_succ, List.replicate_succ, List.replicate_zero, Nat.reduceSub, Bool.not_true, Bool.not_false, ite_true, ite_false, if_true, if_false, reduceCtorEq, fldM_at, sFldM_at, kSF1_some, kSF2_some, kSF3_some, sFldAddM_at, kSA1_some, kSA2_int, eMake_at, kMk1_some, kMk2_some, isCM_at, isCO_non, eGet1_at, kG12_some, kG13_some, eGet2_at, kG22_some, kG23_some, eCallD_at, kCallD_some, eKdx_at, kKdx_some, kIsB_at, kEqE_at, kNeE_at, kInN_at, minF_at, dictF_at, atI0, atI1, eq_str, ixO_tup, lenO_tup, mTup_2, List.cons.injEq, Nat.reduceEqDiff, decide_false, decide_true, and_false, and_true, false_and, true_and, Bool.or_false, Bool.or_true, Bool.true_or, Bool.false_or, Bool.and_true, Bool.and_false, Bool.false_and, Bool.true_and, eReprC_at, kRep2_some, kRep3_some, Int.reduceLE, Int.reduceLT, i1]
  | false =>
    rw [h1] at i1
    cases h2 : decide (l ∈ T2) with
    | true =>
      rw [h2] at i2
      simp only [F_is_told, b_is_told, eVar_at, kVar_some, eC_at, eBin_at, k2_some, k3_some, eUn_at, k1_some, kVal_some, kBl_some, kEq_at, kBlN_some, kNe_at, kIn_at, kNotIn_at, kIx_at, ixO_tup, kLt_int, kLe_int, kGt_int, kGe_int, kLt_str, kLe_str, kGt_str, kGe_str, kIs_non, kIs_bl, kIs_int, kIs_str, kIs_tup, kIs_ref, kIsNot_non, kIsNot_bl, kIsNot_int, kIsNot_str, kIsNot_tup, kIsNot_ref, opAdd_int, opAdd_str, opSub_int, opMul_int, opDiv_int, opMod_int, opPow_int, opAnd_int, opOr_int, opNeg_int, eChain_at, kc1_some, kc2_some, kc3_true, kc3_false, kc4_some, tOf_at, kTru_some, kTru2_some, truD_non, truD_bl, truD_int, truD_tup, tAnd_at, kAnd_true, kAnd_false, tOr_at, kOr_true, kOr_false, tNot_at, kNot_some, tYes_at, eAnd_at, keAnd_some, keAnd2_true, keAnd2_false, eOr_at, keOr_some, keOr2_true, keOr2_false, eNot_at, keNot_some, keNot2_some, eIf_at, keIf_true, keIf_false, aNil_at, aCons_at, ka1_some, ka2_some, eTup_at, kTup_0, kTup_1, kTup_2, kTup_3, kTup_4, kTup_5, kTup_6, eLst_at, kLst_0, kLst_1, kLst_2, kLst_3, kLst_4, eDic0_at, eCall_at, kCall_some, o1_at, isiO_at, kIsi_some, tyD_non, tyD_bl, tyD_int, tyD_str, tyD_tup, eBM_at, kbm1_some, kbm2_some, eSl_at, ks2_some, ks3_some, ks4_some, oNone_at, oSome_at, kSome_int, slO_str, sSeq_at, kSeq_nx, kSeq_rt, kSeq_bk, kSeq_ct, sNext_at, sBreak_at, sCont_at, sRetN_at, sRet_at, kRet_some, sExpr_at, kExpr_some, sSet_at, kSet_some, sIf_at, kIf_true, kIf_false, sPar2_k, kPar2_some, sPar3_k, kPar3_some, sAsg_at, kAsg_some, kAsg2_some, mName_at, mTup_2, mTup_3, mCons_at, kmCons_some, mNil_at, sPut_at, kp1_some, kp2_some, kp3_some, kp4_some, kFn_rt, kFn_nx, mkFn_0, mkFn_1, mkFn_2, mkFn_3, mkFn_4, mkFn_5, sWhile_at, List.getElem?_cons_zero, List.getElem?_cons_succ, List.set_cons_zero, List.set_cons_succ, List.replicate_succ, List.replicate_zero, Nat.reduceSub, Bool.not_true, Bool.not_false, ite_true, ite_false, if_true, if_false, reduceCtorEq, fldM_at, sFldM_at, kSF1_some, kSF2_some, kSF3_some, sFldAddM_at, kSA1_some, kSA2_int, eMake_at, kMk1_some, kMk2_some, isCM_at, isCO_non, eGet1_at, kG12_some, kG13_some, eGet2_at, kG22_some, kG23_some, eCallD_at, kCallD_some, eKdx_at, kKdx_some, kIsB_at, kEqE_at, kNeE_at, kInN_at, minF_at, dictF_at, atI0, atI1, eq_str, ixO_tup, lenO_tup, mTup_2, List.cons.injEq, Nat.reduceEqDiff, decide_false, decide_true, and_false, and_true, false_and, true_and, Bool.or_false, Bool.or_true, Bool.true_or, Bool.false_or, Bool.and_true, Bool.and_false, Bool.false_and, Bool.true_and, eReprC_at, kRep2_some, kRep3_some, Int.reduceLE, Int.reduceLT, i1, i2]
    | false =>
      rw [h2] at i2
      simp only [F_is_told, b_is_told, eVar_at, kVar_some, eC_at, eBin_at, k2_some, k3_some, eUn_at, k1_some, kVal_some, kBl_some, kEq_at, kBlN_some, kNe_at, kIn_at, kNotIn_at, kIx_at, ixO_tup, kLt_int, kLe_int, kGt_int, kGe_int, kLt_str, kLe_str, kGt_str, kGe_str, kIs_non, kIs_bl, kIs_int, kIs_str, kIs_tup, kIs_ref, kIsNot_non, kIsNot_bl, kIsNot_int, kIsNot_str, kIsNot_tup, kIsNot_ref, opAdd_int, opAdd_str, opSub_int, opMul_int, opDiv_int, opMod_int, opPow_int, opAnd_int, opOr_int, opNeg_int, eChain_at, kc1_some, kc2_some, kc3_true, kc3_false, kc4_some, tOf_at, kTru_some, kTru2_some, truD_non, truD_bl, truD_int, truD_tup, tAnd_at, kAnd_true, kAnd_false, tOr_at, kOr_true, kOr_false, tNot_at, kNot_some, tYes_at, eAnd_at, keAnd_some, keAnd2_true, keAnd2_false, eOr_at, keOr_some, keOr2_true, keOr2_false, eNot_at, keNot_some, keNot2_some, eIf_at, keIf_true, keIf_false, aNil_at, aCons_at, ka1_some, ka2_some, eTup_at, kTup_0, kTup_1, kTup_2, kTup_3, kTup_4, kTup_5, kTup_6, eLst_at, kLst_0, kLst_1, kLst_2, kLst_3, kLst_4, eDic0_at, eCall_at, kCall_some, o1_at, isiO_at, kIsi_some, tyD_non, tyD_bl, tyD_int, tyD_str, tyD_tup, eBM_at, kbm1_some, kbm2_some, eSl_at, ks2_some, ks3_some, ks4_some, oNone_at, oSome_at, kSome_int, slO_str, sSeq_at, kSeq_nx, kSeq_rt, kSeq_bk, kSeq_ct, sNext_at, sBreak_at, sCont_at, sRetN_at, sRet_at, kRet_some, sExpr_at, kExpr_some, sSet_at, kSet_some, sIf_at, kIf_true, kIf_false, sPar2_k, kPar2_some, sPar3_k, kPar3_some, sAsg_at, kAsg_some, kAsg2_some, mName_at, mTup_2, mTup_3, mCons_at, kmCons_some, mNil_at, sPut_at, kp1_some, kp2_some, kp3_some, kp4_some, kFn_rt, kFn_nx, mkFn_0, mkFn_1, mkFn_2, mkFn_3, mkFn_4, mkFn_5, sWhile_at, List.getElem?_cons_zero, List.getElem?_cons_succ, List.set_cons_zero, List.set_cons_succ, List.replicate_succ, List.replicate_zero, Nat.reduceSub, Bool.not_true, Bool.not_false, ite_true, ite_false, if_true, if_false, reduceCtorEq, fldM_at, sFldM_at, kSF1_some, kSF2_some, kSF3_some, sFldAddM_at, kSA1_some, kSA2_int, eMake_at, kMk1_some, kMk2_some, isCM_at, isCO_non, eGet1_at, kG12_some, kG13_some, eGet2_at, kG22_some, kG23_some, eCallD_at, kCallD_some, eKdx_at, kKdx_some, kIsB_at, kEqE_at, kNeE_at, kInN_at, minF_at, dictF_at, atI0, atI1, eq_str, ixO_tup, lenO_tup, mTup_2, List.cons.injEq, Nat.reduceEqDiff, decide_false, decide_true, and_false, and_true, false_and, true_and, Bool.or_false, Bool.or_true, Bool.true_or, Bool.false_or, Bool.and_true, Bool.and_false, Bool.false_and, Bool.true_and, eReprC_at, kRep2_some, kRep3_some, Int.reduceLE, Int.reduceLT, i1, i2]
theorem all_lst (st : Sto) (bs : List Bool) : allO (.ref st.length) (st ++ [.lst (bs.map D.bl)]) = some (.bl (bs.all id)) := by
  have e : blsO (bs.map D.bl) = some bs := by
    induction bs with
    | nil => rfl
    | cons a r ih =>
      show (blsO (r.map D.bl)).map _ = _
      rw [ih]
      rfl
  show Option.map _ ((rdL (st ++ .lst (bs.map D.bl) :: []) st.length).bind blsO) = _
  rw [rdL_end, Option.bind_some, e]
  rfl
structure Run (l : List Nat) : Prop where
  ne : l ≠ []
  w : ∀ c ∈ l, isW c = true
  le : l.length ≤ 50000
theorem name_run {c : Nat} {r : List Nat} (h : Run (c :: r)) (st : Sto) : ∃ g, F_is_name [.str (c :: r)] st = some (.bl (decide ((c :: r).length ≤ 12) && (!isT (c :: r) && decide (c ∈ LET))), st ++ g) := by
  have hl : (c :: r).length ≤ 100000 := by
    have := h.le
    omega
  have ln := len_str (c :: r) hl st
  have c1 : ((1 : Int) ≤ ((c :: r).length : Int)) := by
    rw [List.length_cons]
    omega
  by_cases c2 : (c :: r).length ≤ 12
  · have c2' : (((c :: r).length : Int) ≤ 12) := by omega
    have t := told_is (c :: r) st
    cases ht : isT (c :: r) with
    | true =>
      rw [ht] at t
      exact ⟨[], by simp only [F_is_name, b_is_name, eVar_at, kVar_some, eC_at, eBin_at, k2_some, k3_some, eUn_at, k1_some, kVal_some, kBl_some, kEq_at, kBlN_some, kNe_at, kIn_at, kNotIn_at, kIx_at, ixO_tup, kLt_int, kLe_int, kGt_int, kGe_int, kLt_str, kLe_str, kGt_str, kGe_str, kIs_non, kIs_bl, kIs_int, kIs_str, kIs_tup, kIs_ref, kIsNot_non, kIsNot_bl, kIsNot_int, kIsNot_str, kIsNot_tup, kIsNot_ref, opAdd_int, opAdd_str, opSub_int, opMul_int, opDiv_int, opMod_int, opPow_int, opAnd_int, opOr_int, opNeg_int, eChain_at, kc1_some, kc2_some, kc3_true, kc3_false, kc4_some, tOf_at, kTru_some, kTru2_some, truD_non, truD_bl, truD_int, truD_tup, tAnd_at, kAnd_true, kAnd_false, tOr_at, kOr_true, kOr_false, tNot_at, kNot_some, tYes_at, eAnd_at, keAnd_some, keAnd2_true, keAnd2_false, eOr_at, keOr_some, keOr2_true, keOr2_false, eNot_at, keNot_some, keNot2_some, eIf_at, keIf_true, keIf_false, aNil_at, aCons_at, ka1_some, ka2_some, eTup_at, kTup_0, kTup_1, kTup_2, kTup_3, kTup_4, kTup_5, kTup_6, eLst_at, kLst_0, kLst_1, kLst_2, kLst_3, kLst_4, eDic0_at, eCall_at, kCall_some, o1_at, isiO_at, kIsi_some, tyD_non, tyD_bl, tyD_int, tyD_str, tyD_tup, eBM_at, kbm1_some, kbm2_some, eSl_at, ks2_some, ks3_some, ks4_some, oNone_at, oSome_at, kSome_int, slO_str, sSeq_at, kSeq_nx, kSeq_rt, kSeq_bk, kSeq_ct, sNext_at, sBreak_at, sCont_at, sRetN_at, sRet_at, kRet_some, sExpr_at, kExpr_some, sSet_at, kSet_some, sIf_at, kIf_true, kIf_false, sPar2_k, kPar2_some, sPar3_k, kPar3_some, sAsg_at, kAsg_some, kAsg2_some, mName_at, mTup_2, mTup_3, mCons_at, kmCons_some, mNil_at, sPut_at, kp1_some, kp2_some, kp3_some, kp4_some, kFn_rt, kFn_nx, mkFn_0, mkFn_1, mkFn_2, mkFn_3, mkFn_4, mkFn_5, sWhile_at, List.getElem?_cons_zero, List.getElem?_cons_succ, List.set_cons_zero, List.set_cons_succ, List.replicate_succ, List.replicate_zero, Nat.reduceSub, Bool.not_true, Bool.not_false, ite_true, ite_false, if_true, if_false, reduceCtorEq, fldM_at, sFldM_at, kSF1_some, kSF2_some, kSF3_some, sFldAddM_at, kSA1_some, kSA2_int, eMake_at, kMk1_some, kMk2_some, isCM_at, isCO_non, eGet1_at, kG12_some, kG13_some, eGet2_at, kG22_some, kG23_some, eCallD_at, kCallD_some, eKdx_at, kKdx_some, kIsB_at, kEqE_at, kNeE_at, kInN_at, minF_at, dictF_at, atI0, atI1, eq_str, ixO_tup, lenO_tup, mTup_2, List.cons.injEq, Nat.reduceEqDiff, decide_false, decide_true, and_false, and_true, false_and, true_and, Bool.or_false, Bool.or_true, Bool.true_or, Bool.false_or, Bool.and_true, Bool.and_false, Bool.false_and, Bool.true_and, eReprC_at, kRep2_some, kRep3_some, Int.reduceLE, Int.reduceLT, isa_str, ln, c1, c2, c2', decide_true, t, List.append_nil]⟩
    | false =>
      rw [ht] at t
      have x0 := ix_pre [] c r hl st
      have x0' : ixO (.str (c :: r)) (.int 0) st = some (.str [c]) := x0
      have i0 := in_one st c LET
      cases hc : decide (c ∈ LET) with
      | false =>
        rw [hc] at i0
        exact ⟨[], by simp only [F_is_name, b_is_name, eVar_at, kVar_some, eC_at, eBin_at, k2_some, k3_some, eUn_at, k1_some, kVal_some, kBl_some, kEq_at, kBlN_some, kNe_at, kIn_at, kNotIn_at, kIx_at, ixO_tup, kLt_int, kLe_int, kGt_int, kGe_int, kLt_str, kLe_str, kGt_str, kGe_str, kIs_non, kIs_bl, kIs_int, kIs_str, kIs_tup, kIs_ref, kIsNot_non, kIsNot_bl, kIsNot_int, kIsNot_str, kIsNot_tup, kIsNot_ref, opAdd_int, opAdd_str, opSub_int, opMul_int, opDiv_int, opMod_int, opPow_int, opAnd_int, opOr_int, opNeg_int, eChain_at, kc1_some, kc2_some, kc3_true, kc3_false, kc4_some, tOf_at, kTru_some, kTru2_some, truD_non, truD_bl, truD_int, truD_tup, tAnd_at, kAnd_true, kAnd_false, tOr_at, kOr_true, kOr_false, tNot_at, kNot_some, tYes_at, eAnd_at, keAnd_some, keAnd2_true, keAnd2_false, eOr_at, keOr_some, keOr2_true, keOr2_false, eNot_at, keNot_some, keNot2_some, eIf_at, keIf_true, keIf_false, aNil_at, aCons_at, ka1_some, ka2_some, eTup_at, kTup_0, kTup_1, kTup_2, kTup_3, kTup_4, kTup_5, kTup_6, eLst_at, kLst_0, kLst_1, kLst_2, kLst_3, kLst_4, eDic0_at, eCall_at, kCall_some, o1_at, isiO_at, kIsi_some, tyD_non, tyD_bl, tyD_int, tyD_str, tyD_tup, eBM_at, kbm1_some, kbm2_some, eSl_at, ks2_some, ks3_some, ks4_some, oNone_at, oSome_at, kSome_int, slO_str, sSeq_at, kSeq_nx, kSeq_rt, kSeq_bk, kSeq_ct, sNext_at, sBreak_at, sCont_at, sRetN_at, sRet_at, kRet_some, sExpr_at, kExpr_some, sSet_at, kSet_some, sIf_at, kIf_true, kIf_false, sPar2_k, kPar2_some, sPar3_k, kPar3_some, sAsg_at, kAsg_some, kAsg2_some, mName_at, mTup_2, mTup_3, mCons_at, kmCons_some, mNil_at, sPut_at, kp1_some, kp2_some, kp3_some, kp4_some, kFn_rt, kFn_nx, mkFn_0, mkFn_1, mkFn_2, mkFn_3, mkFn_4, mkFn_5, sWhile_at, List.getElem?_cons_zero, List.getElem?_cons_succ, List.set_cons_zero, List.set_cons_succ, List.replicate_succ, List.replicate_zero, Nat.reduceSub, Bool.not_true, Bool.not_false, ite_true, ite_false, if_true, if_false, reduceCtorEq, fldM_at, sFldM_at, kSF1_some, kSF2_some, kSF3_some, sFldAddM_at, kSA1_some, kSA2_int, eMake_at, kMk1_some, kMk2_some, isCM_at, isCO_non, eGet1_at, kG12_some, kG13_some, eGet2_at, kG22_some, kG23_some, eCallD_at, kCallD_some, eKdx_at, kKdx_some, kIsB_at, kEqE_at, kNeE_at, kInN_at, minF_at, dictF_at, atI0, atI1, eq_str, ixO_tup, lenO_tup, mTup_2, List.cons.injEq, Nat.reduceEqDiff, decide_false, decide_true, and_false, and_true, false_and, true_and, Bool.or_false, Bool.or_true, Bool.true_or, Bool.false_or, Bool.and_true, Bool.and_false, Bool.false_and, Bool.true_and, eReprC_at, kRep2_some, kRep3_some, Int.reduceLE, Int.reduceLT, isa_str, ln, c1, c2, c2', decide_true, t, x0', i0, List.append_nil]⟩
      | true =>
        rw [hc] at i0
        have lc : eLc [1] (iV (eVar 0)) (mName 1) tYesM eC_is_name_1 [some (.str (c :: r)), none] st = some (.ref st.length, st ++ [.lst ((((c :: r).filter fun _ => true).map isW).map D.bl)]) := by
          have := eLc_CM (vs0 := [1]) (m := mName 1) (t := tYesM) (f := eC_is_name_1) (ρ := [some (.str (c :: r)), none]) (st0 := st) (st := st) (l := c :: r) (g := fun c => D.str [c]) (b := fun _ => true) (φ := fun c => D.bl (isW c)) (chk := fun _ => True) (fi := iV (eVar 0)) rfl (fun _ => trivial) (fun a ha acc => ⟨[some (.str (c :: r)), some (.str [a])], rfl, rfl, fun _ => by
            have i := in_one (st ++ [.lst acc]) a LFU
            unfold isW
            simp only [eC_is_name_1, eVar_at, kVar_some, eC_at, eBin_at, k2_some, k3_some, eUn_at, k1_some, kVal_some, kBl_some, kEq_at, kBlN_some, kNe_at, kIn_at, kNotIn_at, kIx_at, ixO_tup, kLt_int, kLe_int, kGt_int, kGe_int, kLt_str, kLe_str, kGt_str, kGe_str, kIs_non, kIs_bl, kIs_int, kIs_str, kIs_tup, kIs_ref, kIsNot_non, kIsNot_bl, kIsNot_int, kIsNot_str, kIsNot_tup, kIsNot_ref, opAdd_int, opAdd_str, opSub_int, opMul_int, opDiv_int, opMod_int, opPow_int, opAnd_int, opOr_int, opNeg_int, eChain_at, kc1_some, kc2_some, kc3_true, kc3_false, kc4_some, tOf_at, kTru_some, kTru2_some, truD_non, truD_bl, truD_int, truD_tup, tAnd_at, kAnd_true, kAnd_false, tOr_at, kOr_true, kOr_false, tNot_at, kNot_some, tYes_at, eAnd_at, keAnd_some, keAnd2_true, keAnd2_false, eOr_at, keOr_some, keOr2_true, keOr2_false, eNot_at, keNot_some, keNot2_some, eIf_at, keIf_true, keIf_false, aNil_at, aCons_at, ka1_some, ka2_some, eTup_at, kTup_0, kTup_1, kTup_2, kTup_3, kTup_4, kTup_5, kTup_6, eLst_at, kLst_0, kLst_1, kLst_2, kLst_3, kLst_4, eDic0_at, eCall_at, kCall_some, o1_at, isiO_at, kIsi_some, tyD_non, tyD_bl, tyD_int, tyD_str, tyD_tup, eBM_at, kbm1_some, kbm2_some, eSl_at, ks2_some, ks3_some, ks4_some, oNone_at, oSome_at, kSome_int, slO_str, sSeq_at, kSeq_nx, kSeq_rt, kSeq_bk, kSeq_ct, sNext_at, sBreak_at, sCont_at, sRetN_at, sRet_at, kRet_some, sExpr_at, kExpr_some, sSet_at, kSet_some, sIf_at, kIf_true, kIf_false, sPar2_k, kPar2_some, sPar3_k, kPar3_some, sAsg_at, kAsg_some, kAsg2_some, mName_at, mTup_2, mTup_3, mCons_at, kmCons_some, mNil_at, sPut_at, kp1_some, kp2_some, kp3_some, kp4_some, kFn_rt, kFn_nx, mkFn_0, mkFn_1, mkFn_2, mkFn_3, mkFn_4, mkFn_5, sWhile_at, List.getElem?_cons_zero, List.getElem?_cons_succ, List.set_cons_zero, List.set_cons_succ, List.replicate_succ, List.replicate_zero, Nat.reduceSub, Bool.not_true, Bool.not_false, ite_true, ite_false, if_true, if_false, reduceCtorEq, fldM_at, sFldM_at, kSF1_some, kSF2_some, kSF3_some, sFldAddM_at, kSA1_some, kSA2_int, eMake_at, kMk1_some, kMk2_some, isCM_at, isCO_non, eGet1_at, kG12_some, kG13_some, eGet2_at, kG22_some, kG23_some, eCallD_at, kCallD_some, eKdx_at, kKdx_some, kIsB_at, kEqE_at, kNeE_at, kInN_at, minF_at, dictF_at, atI0, atI1, eq_str, ixO_tup, lenO_tup, mTup_2, List.cons.injEq, Nat.reduceEqDiff, decide_false, decide_true, and_false, and_true, false_and, true_and, Bool.or_false, Bool.or_true, Bool.true_or, Bool.false_or, Bool.and_true, Bool.and_false, Bool.false_and, Bool.true_and, eReprC_at, kRep2_some, kRep3_some, Int.reduceLE, Int.reduceLT, ad_lf, ad_lfu, i, -opAdd_str]⟩) (lim1 hl)
          rw [this, List.map_map]
          rfl
        rw [List.filter_eq_self.mpr fun _ _ => rfl] at lc
        have al := all_lst st ((c :: r).map isW)
        have tr : ((c :: r).map isW).all id = true := by
          rw [List.all_eq_true]
          intro x hx
          obtain ⟨y, hy, rfl⟩ := List.mem_map.mp hx
          exact h.w y hy
        rw [tr] at al
        exact ⟨[.lst (((c :: r).map isW).map D.bl)], by simp only [F_is_name, b_is_name, eVar_at, kVar_some, eC_at, eBin_at, k2_some, k3_some, eUn_at, k1_some, kVal_some, kBl_some, kEq_at, kBlN_some, kNe_at, kIn_at, kNotIn_at, kIx_at, ixO_tup, kLt_int, kLe_int, kGt_int, kGe_int, kLt_str, kLe_str, kGt_str, kGe_str, kIs_non, kIs_bl, kIs_int, kIs_str, kIs_tup, kIs_ref, kIsNot_non, kIsNot_bl, kIsNot_int, kIsNot_str, kIsNot_tup, kIsNot_ref, opAdd_int, opAdd_str, opSub_int, opMul_int, opDiv_int, opMod_int, opPow_int, opAnd_int, opOr_int, opNeg_int, eChain_at, kc1_some, kc2_some, kc3_true, kc3_false, kc4_some, tOf_at, kTru_some, kTru2_some, truD_non, truD_bl, truD_int, truD_tup, tAnd_at, kAnd_true, kAnd_false, tOr_at, kOr_true, kOr_false, tNot_at, kNot_some, tYes_at, eAnd_at, keAnd_some, keAnd2_true, keAnd2_false, eOr_at, keOr_some, keOr2_true, keOr2_false, eNot_at, keNot_some, keNot2_some, eIf_at, keIf_true, keIf_false, aNil_at, aCons_at, ka1_some, ka2_some, eTup_at, kTup_0, kTup_1, kTup_2, kTup_3, kTup_4, kTup_5, kTup_6, eLst_at, kLst_0, kLst_1, kLst_2, kLst_3, kLst_4, eDic0_at, eCall_at, kCall_some, o1_at, isiO_at, kIsi_some, tyD_non, tyD_bl, tyD_int, tyD_str, tyD_tup, eBM_at, kbm1_some, kbm2_some, eSl_at, ks2_some, ks3_some, ks4_some, oNone_at, oSome_at, kSome_int, slO_str, sSeq_at, kSeq_nx, kSeq_rt, kSeq_bk, kSeq_ct, sNext_at, sBreak_at, sCont_at, sRetN_at, sRet_at, kRet_some, sExpr_at, kExpr_some, sSet_at, kSet_some, sIf_at, kIf_true, kIf_false, sPar2_k, kPar2_some, sPar3_k, kPar3_some, sAsg_at, kAsg_some, kAsg2_some, mName_at, mTup_2, mTup_3, mCons_at, kmCons_some, mNil_at, sPut_at, kp1_some, kp2_some, kp3_some, kp4_some, kFn_rt, kFn_nx, mkFn_0, mkFn_1, mkFn_2, mkFn_3, mkFn_4, mkFn_5, sWhile_at, List.getElem?_cons_zero, List.getElem?_cons_succ, List.set_cons_zero, List.set_cons_succ, List.replicate_succ, List.replicate_zero, Nat.reduceSub, Bool.not_true, Bool.not_false, ite_true, ite_false, if_true, if_false, reduceCtorEq, fldM_at, sFldM_at, kSF1_some, kSF2_some, kSF3_some, sFldAddM_at, kSA1_some, kSA2_int, eMake_at, kMk1_some, kMk2_some, isCM_at, isCO_non, eGet1_at, kG12_some, kG13_some, eGet2_at, kG22_some, kG23_some, eCallD_at, kCallD_some, eKdx_at, kKdx_some, kIsB_at, kEqE_at, kNeE_at, kInN_at, minF_at, dictF_at, atI0, atI1, eq_str, ixO_tup, lenO_tup, mTup_2, List.cons.injEq, Nat.reduceEqDiff, decide_false, decide_true, and_false, and_true, false_and, true_and, Bool.or_false, Bool.or_true, Bool.true_or, Bool.false_or, Bool.and_true, Bool.and_false, Bool.false_and, Bool.true_and, eReprC_at, kRep2_some, kRep3_some, Int.reduceLE, Int.reduceLT, isa_str, ln, c1, c2, c2', decide_true, t, x0', i0, lc, al]⟩
  · have c2' : ¬ (((c :: r).length : Int) ≤ 12) := by omega
    exact ⟨[], by simp only [F_is_name, b_is_name, eVar_at, kVar_some, eC_at, eBin_at, k2_some, k3_some, eUn_at, k1_some, kVal_some, kBl_some, kEq_at, kBlN_some, kNe_at, kIn_at, kNotIn_at, kIx_at, ixO_tup, kLt_int, kLe_int, kGt_int, kGe_int, kLt_str, kLe_str, kGt_str, kGe_str, kIs_non, kIs_bl, kIs_int, kIs_str, kIs_tup, kIs_ref, kIsNot_non, kIsNot_bl, kIsNot_int, kIsNot_str, kIsNot_tup, kIsNot_ref, opAdd_int, opAdd_str, opSub_int, opMul_int, opDiv_int, opMod_int, opPow_int, opAnd_int, opOr_int, opNeg_int, eChain_at, kc1_some, kc2_some, kc3_true, kc3_false, kc4_some, tOf_at, kTru_some, kTru2_some, truD_non, truD_bl, truD_int, truD_tup, tAnd_at, kAnd_true, kAnd_false, tOr_at, kOr_true, kOr_false, tNot_at, kNot_some, tYes_at, eAnd_at, keAnd_some, keAnd2_true, keAnd2_false, eOr_at, keOr_some, keOr2_true, keOr2_false, eNot_at, keNot_some, keNot2_some, eIf_at, keIf_true, keIf_false, aNil_at, aCons_at, ka1_some, ka2_some, eTup_at, kTup_0, kTup_1, kTup_2, kTup_3, kTup_4, kTup_5, kTup_6, eLst_at, kLst_0, kLst_1, kLst_2, kLst_3, kLst_4, eDic0_at, eCall_at, kCall_some, o1_at, isiO_at, kIsi_some, tyD_non, tyD_bl, tyD_int, tyD_str, tyD_tup, eBM_at, kbm1_some, kbm2_some, eSl_at, ks2_some, ks3_some, ks4_some, oNone_at, oSome_at, kSome_int, slO_str, sSeq_at, kSeq_nx, kSeq_rt, kSeq_bk, kSeq_ct, sNext_at, sBreak_at, sCont_at, sRetN_at, sRet_at, kRet_some, sExpr_at, kExpr_some, sSet_at, kSet_some, sIf_at, kIf_true, kIf_false, sPar2_k, kPar2_some, sPar3_k, kPar3_some, sAsg_at, kAsg_some, kAsg2_some, mName_at, mTup_2, mTup_3, mCons_at, kmCons_some, mNil_at, sPut_at, kp1_some, kp2_some, kp3_some, kp4_some, kFn_rt, kFn_nx, mkFn_0, mkFn_1, mkFn_2, mkFn_3, mkFn_4, mkFn_5, sWhile_at, List.getElem?_cons_zero, List.getElem?_cons_succ, List.set_cons_zero, List.set_cons_succ, List.replicate_succ, List.replicate_zero, Nat.reduceSub, Bool.not_true, Bool.not_false, ite_true, ite_false, if_true, if_false, reduceCtorEq, fldM_at, sFldM_at, kSF1_some, kSF2_some, kSF3_some, sFldAddM_at, kSA1_some, kSA2_int, eMake_at, kMk1_some, kMk2_some, isCM_at, isCO_non, eGet1_at, kG12_some, kG13_some, eGet2_at, kG22_some, kG23_some, eCallD_at, kCallD_some, eKdx_at, kKdx_some, kIsB_at, kEqE_at, kNeE_at, kInN_at, minF_at, dictF_at, atI0, atI1, eq_str, ixO_tup, lenO_tup, mTup_2, List.cons.injEq, Nat.reduceEqDiff, decide_false, decide_true, and_false, and_true, false_and, true_and, Bool.or_false, Bool.or_true, Bool.true_or, Bool.false_or, Bool.and_true, Bool.and_false, Bool.false_and, Bool.true_and, eReprC_at, kRep2_some, kRep3_some, Int.reduceLE, Int.reduceLT, isa_str, ln, c1, c2, c2', decide_true, decide_false, List.append_nil]⟩
inductive Wo
  | tx (k l : List Nat)
  | nu (n : Nat)
def Wo.d : Wo → D
  | .tx k l => .tup [.str k, .str l]
  | .nu n => .tup [.str [110, 117, 109, 98, 101, 114], .int (n : Nat)]
def dO : Option Wo → D
  | none => .non
  | some w => w.d
theorem dig_fig : ∀ c ∈ LFU, Unicode.isDigit c = decide (c ∈ FIG) := by decide +kernel
theorem fig_of {c : Nat} (h : c ∈ FIG) : 48 ≤ c ∧ c ≤ 57 := by
  simp only [List.mem_cons, List.not_mem_nil, or_false] at h
  omega
def allF (l : List Nat) : Bool := l.all fun c => decide (c ∈ FIG)
theorem isdigit_run {l : List Nat} (h : Run l) (st : Sto) : m0B Txt.isdigit (.str l) [] st = some (.bl (allF l), st) := by
  have e : Txt.isdigit (mkS l) = allF l := by
    have h1 : (mkS l).cps.all Unicode.isDigit = allF l := by
      rw [← Array.all_toList, mkS_tl]
      unfold allF
      rw [Bool.eq_iff_iff, List.all_eq_true, List.all_eq_true]
      constructor
      · intro z c hc
        have := z c hc
        rwa [dig_fig c (of_decide_eq_true (h.w c hc))] at this
      · intro z c hc
        rw [dig_fig c (of_decide_eq_true (h.w c hc))]
        exact z c hc
    have h2 : decide ((mkS l).length > 0) = true := by
      rw [mkS_len]
      have := List.length_pos_iff.mpr h.ne
      exact decide_eq_true this
    show (decide ((mkS l).length > 0) && (mkS l).cps.all Unicode.isDigit) = _
    rw [h1, h2, Bool.true_and]
  show some (D.bl (Txt.isdigit (mkS l)), st) = _
  rw [e]
theorem int_run {l : List Nat} (h : Run l) (ha : allF l = true) (hl : l.length ≤ 12) (st : Sto) : intTO (.str l) st = some (.int ((NumText.digitsVal l : Nat) : Int)) := by
  have e := intText_digits (x := mkS l) (fun c hc => fig_of (of_decide_eq_true (List.all_eq_true.mp ha c hc))) h.ne (by rw [mkS_len]; omega)
  show (if l.length ≤ 640 then (intText? (mkS l)).map D.int else none) = _
  rw [if_pos (by omega), e]
  rfl
def runO (c : Nat) (r : List Nat) : Option Wo :=
  if isT (c :: r) = true then some (.tx [116, 111, 108, 100] (c :: r))
  else if (decide ((c :: r).length ≤ 12) && decide (c ∈ LET)) = true then some (.tx [110, 97, 109, 101] (c :: r))
  else if (allF (c :: r) && decide ((c :: r).length ≤ 12) && (decide (c :: r = [48]) || !decide (c = 48))) = true then some (.nu (NumText.digitsVal (c :: r)))
  else none
theorem dec_one (a b : Nat) : decide ([a] = [b]) = decide (a = b) := by
  by_cases h : a = b
  · simp [h]
  · simp [h]
theorem run_word {c : Nat} {r : List Nat} (h : Run (c :: r)) (st : Sto) : ∃ g, F_run_word [.str (c :: r)] st = some (dO (runO c r), st ++ g) := by
  have t := told_is (c :: r) st
  obtain ⟨g, e⟩ := name_run h st
  unfold runO
  cases ht : isT (c :: r) with
  | true =>
    rw [ht] at t
    exact ⟨[], by simp only [F_run_word, b_run_word, eVar_at, kVar_some, eC_at, eBin_at, k2_some, k3_some, eUn_at, k1_some, kVal_some, kBl_some, kEq_at, kBlN_some, kNe_at, kIn_at, kNotIn_at, kIx_at, ixO_tup, kLt_int, kLe_int, kGt_int, kGe_int, kLt_str, kLe_str, kGt_str, kGe_str, kIs_non, kIs_bl, kIs_int, kIs_str, kIs_tup, kIs_ref, kIsNot_non, kIsNot_bl, kIsNot_int, kIsNot_str, kIsNot_tup, kIsNot_ref, opAdd_int, opAdd_str, opSub_int, opMul_int, opDiv_int, opMod_int, opPow_int, opAnd_int, opOr_int, opNeg_int, eChain_at, kc1_some, kc2_some, kc3_true, kc3_false, kc4_some, tOf_at, kTru_some, kTru2_some, truD_non, truD_bl, truD_int, truD_tup, tAnd_at, kAnd_true, kAnd_false, tOr_at, kOr_true, kOr_false, tNot_at, kNot_some, tYes_at, eAnd_at, keAnd_some, keAnd2_true, keAnd2_false, eOr_at, keOr_some, keOr2_true, keOr2_false, eNot_at, keNot_some, keNot2_some, eIf_at, keIf_true, keIf_false, aNil_at, aCons_at, ka1_some, ka2_some, eTup_at, kTup_0, kTup_1, kTup_2, kTup_3, kTup_4, kTup_5, kTup_6, eLst_at, kLst_0, kLst_1, kLst_2, kLst_3, kLst_4, eDic0_at, eCall_at, kCall_some, o1_at, isiO_at, kIsi_some, tyD_non, tyD_bl, tyD_int, tyD_str, tyD_tup, eBM_at, kbm1_some, kbm2_some, eSl_at, ks2_some, ks3_some, ks4_some, oNone_at, oSome_at, kSome_int, slO_str, sSeq_at, kSeq_nx, kSeq_rt, kSeq_bk, kSeq_ct, sNext_at, sBreak_at, sCont_at, sRetN_at, sRet_at, kRet_some, sExpr_at, kExpr_some, sSet_at, kSet_some, sIf_at, kIf_true, kIf_false, sPar2_k, kPar2_some, sPar3_k, kPar3_some, sAsg_at, kAsg_some, kAsg2_some, mName_at, mTup_2, mTup_3, mCons_at, kmCons_some, mNil_at, sPut_at, kp1_some, kp2_some, kp3_some, kp4_some, kFn_rt, kFn_nx, mkFn_0, mkFn_1, mkFn_2, mkFn_3, mkFn_4, mkFn_5, sWhile_at, List.getElem?_cons_zero, List.getElem?_cons_succ, List.set_cons_zero, List.set_cons_succ, List.replicate_succ, List.replicate_zero, Nat.reduceSub, Bool.not_true, Bool.not_false, ite_true, ite_false, if_true, if_false, reduceCtorEq, fldM_at, sFldM_at, kSF1_some, kSF2_some, kSF3_some, sFldAddM_at, kSA1_some, kSA2_int, eMake_at, kMk1_some, kMk2_some, isCM_at, isCO_non, eGet1_at, kG12_some, kG13_some, eGet2_at, kG22_some, kG23_some, eCallD_at, kCallD_some, eKdx_at, kKdx_some, kIsB_at, kEqE_at, kNeE_at, kInN_at, minF_at, dictF_at, atI0, atI1, eq_str, ixO_tup, lenO_tup, mTup_2, List.cons.injEq, Nat.reduceEqDiff, decide_false, decide_true, and_false, and_true, false_and, true_and, Bool.or_false, Bool.or_true, Bool.true_or, Bool.false_or, Bool.and_true, Bool.and_false, Bool.false_and, Bool.true_and, eReprC_at, kRep2_some, kRep3_some, Int.reduceLE, Int.reduceLT, t, if_true, dO, Wo.d, List.append_nil]⟩
  | false =>
    rw [ht] at t e
    have hl : (c :: r).length ≤ 100000 := by
      have := h.le
      omega
    rw [Bool.not_false, Bool.true_and] at e
    cases hn : (decide ((c :: r).length ≤ 12) && decide (c ∈ LET)) with
    | true =>
      rw [hn] at e
      exact ⟨g, by simp only [F_run_word, b_run_word, eVar_at, kVar_some, eC_at, eBin_at, k2_some, k3_some, eUn_at, k1_some, kVal_some, kBl_some, kEq_at, kBlN_some, kNe_at, kIn_at, kNotIn_at, kIx_at, ixO_tup, kLt_int, kLe_int, kGt_int, kGe_int, kLt_str, kLe_str, kGt_str, kGe_str, kIs_non, kIs_bl, kIs_int, kIs_str, kIs_tup, kIs_ref, kIsNot_non, kIsNot_bl, kIsNot_int, kIsNot_str, kIsNot_tup, kIsNot_ref, opAdd_int, opAdd_str, opSub_int, opMul_int, opDiv_int, opMod_int, opPow_int, opAnd_int, opOr_int, opNeg_int, eChain_at, kc1_some, kc2_some, kc3_true, kc3_false, kc4_some, tOf_at, kTru_some, kTru2_some, truD_non, truD_bl, truD_int, truD_tup, tAnd_at, kAnd_true, kAnd_false, tOr_at, kOr_true, kOr_false, tNot_at, kNot_some, tYes_at, eAnd_at, keAnd_some, keAnd2_true, keAnd2_false, eOr_at, keOr_some, keOr2_true, keOr2_false, eNot_at, keNot_some, keNot2_some, eIf_at, keIf_true, keIf_false, aNil_at, aCons_at, ka1_some, ka2_some, eTup_at, kTup_0, kTup_1, kTup_2, kTup_3, kTup_4, kTup_5, kTup_6, eLst_at, kLst_0, kLst_1, kLst_2, kLst_3, kLst_4, eDic0_at, eCall_at, kCall_some, o1_at, isiO_at, kIsi_some, tyD_non, tyD_bl, tyD_int, tyD_str, tyD_tup, eBM_at, kbm1_some, kbm2_some, eSl_at, ks2_some, ks3_some, ks4_some, oNone_at, oSome_at, kSome_int, slO_str, sSeq_at, kSeq_nx, kSeq_rt, kSeq_bk, kSeq_ct, sNext_at, sBreak_at, sCont_at, sRetN_at, sRet_at, kRet_some, sExpr_at, kExpr_some, sSet_at, kSet_some, sIf_at, kIf_true, kIf_false, sPar2_k, kPar2_some, sPar3_k, kPar3_some, sAsg_at, kAsg_some, kAsg2_some, mName_at, mTup_2, mTup_3, mCons_at, kmCons_some, mNil_at, sPut_at, kp1_some, kp2_some, kp3_some, kp4_some, kFn_rt, kFn_nx, mkFn_0, mkFn_1, mkFn_2, mkFn_3, mkFn_4, mkFn_5, sWhile_at, List.getElem?_cons_zero, List.getElem?_cons_succ, List.set_cons_zero, List.set_cons_succ, List.replicate_succ, List.replicate_zero, Nat.reduceSub, Bool.not_true, Bool.not_false, ite_true, ite_false, if_true, if_false, reduceCtorEq, fldM_at, sFldM_at, kSF1_some, kSF2_some, kSF3_some, sFldAddM_at, kSA1_some, kSA2_int, eMake_at, kMk1_some, kMk2_some, isCM_at, isCO_non, eGet1_at, kG12_some, kG13_some, eGet2_at, kG22_some, kG23_some, eCallD_at, kCallD_some, eKdx_at, kKdx_some, kIsB_at, kEqE_at, kNeE_at, kInN_at, minF_at, dictF_at, atI0, atI1, eq_str, ixO_tup, lenO_tup, mTup_2, List.cons.injEq, Nat.reduceEqDiff, decide_false, decide_true, and_false, and_true, false_and, true_and, Bool.or_false, Bool.or_true, Bool.true_or, Bool.false_or, Bool.and_true, Bool.and_false, Bool.false_and, Bool.true_and, eReprC_at, kRep2_some, kRep3_some, Int.reduceLE, Int.reduceLT, t, e, if_true, if_false, dO, Wo.d]⟩
    | false =>
      rw [hn] at e
      have d1 := isdigit_run h (st ++ g)
      have ln := len_str (c :: r) hl (st ++ g)
      have x0 : ixO (.str (c :: r)) (.int 0) (st ++ g) = some (.str [c]) := ix_pre [] c r hl (st ++ g)
      have d0 := dec_one c 48
      have iss : ∀ s, isS s (.str (c :: r)) = true := fun _ => rfl
      refine ⟨g, ?_⟩
      cases hd : allF (c :: r) with
      | false =>
        rw [hd] at d1
        simp only [F_run_word, b_run_word, eVar_at, kVar_some, eC_at, eBin_at, k2_some, k3_some, eUn_at, k1_some, kVal_some, kBl_some, kEq_at, kBlN_some, kNe_at, kIn_at, kNotIn_at, kIx_at, ixO_tup, kLt_int, kLe_int, kGt_int, kGe_int, kLt_str, kLe_str, kGt_str, kGe_str, kIs_non, kIs_bl, kIs_int, kIs_str, kIs_tup, kIs_ref, kIsNot_non, kIsNot_bl, kIsNot_int, kIsNot_str, kIsNot_tup, kIsNot_ref, opAdd_int, opAdd_str, opSub_int, opMul_int, opDiv_int, opMod_int, opPow_int, opAnd_int, opOr_int, opNeg_int, eChain_at, kc1_some, kc2_some, kc3_true, kc3_false, kc4_some, tOf_at, kTru_some, kTru2_some, truD_non, truD_bl, truD_int, truD_tup, tAnd_at, kAnd_true, kAnd_false, tOr_at, kOr_true, kOr_false, tNot_at, kNot_some, tYes_at, eAnd_at, keAnd_some, keAnd2_true, keAnd2_false, eOr_at, keOr_some, keOr2_true, keOr2_false, eNot_at, keNot_some, keNot2_some, eIf_at, keIf_true, keIf_false, aNil_at, aCons_at, ka1_some, ka2_some, eTup_at, kTup_0, kTup_1, kTup_2, kTup_3, kTup_4, kTup_5, kTup_6, eLst_at, kLst_0, kLst_1, kLst_2, kLst_3, kLst_4, eDic0_at, eCall_at, kCall_some, o1_at, isiO_at, kIsi_some, tyD_non, tyD_bl, tyD_int, tyD_str, tyD_tup, eBM_at, kbm1_some, kbm2_some, eSl_at, ks2_some, ks3_some, ks4_some, oNone_at, oSome_at, kSome_int, slO_str, sSeq_at, kSeq_nx, kSeq_rt, kSeq_bk, kSeq_ct, sNext_at, sBreak_at, sCont_at, sRetN_at, sRet_at, kRet_some, sExpr_at, kExpr_some, sSet_at, kSet_some, sIf_at, kIf_true, kIf_false, sPar2_k, kPar2_some, sPar3_k, kPar3_some, sAsg_at, kAsg_some, kAsg2_some, mName_at, mTup_2, mTup_3, mCons_at, kmCons_some, mNil_at, sPut_at, kp1_some, kp2_some, kp3_some, kp4_some, kFn_rt, kFn_nx, mkFn_0, mkFn_1, mkFn_2, mkFn_3, mkFn_4, mkFn_5, sWhile_at, List.getElem?_cons_zero, List.getElem?_cons_succ, List.set_cons_zero, List.set_cons_succ, List.replicate_succ, List.replicate_zero, Nat.reduceSub, Bool.not_true, Bool.not_false, ite_true, ite_false, if_true, if_false, reduceCtorEq, fldM_at, sFldM_at, kSF1_some, kSF2_some, kSF3_some, sFldAddM_at, kSA1_some, kSA2_int, eMake_at, kMk1_some, kMk2_some, isCM_at, isCO_non, eGet1_at, kG12_some, kG13_some, eGet2_at, kG22_some, kG23_some, eCallD_at, kCallD_some, eKdx_at, kKdx_some, kIsB_at, kEqE_at, kNeE_at, kInN_at, minF_at, dictF_at, atI0, atI1, eq_str, ixO_tup, lenO_tup, mTup_2, List.cons.injEq, Nat.reduceEqDiff, decide_false, decide_true, and_false, and_true, false_and, true_and, Bool.or_false, Bool.or_true, Bool.true_or, Bool.false_or, Bool.and_true, Bool.and_false, Bool.false_and, Bool.true_and, eReprC_at, kRep2_some, kRep3_some, Int.reduceLE, Int.reduceLT, t, e, iss, d1, if_true, if_false, dO, Wo.d]
      | true =>
        rw [hd] at d1
        by_cases hq : (c :: r).length ≤ 12
        · have hq' : (((c :: r).length : Int) ≤ 12) := by omega
          have it := int_run h hd hq (st ++ g)
          by_cases h0 : c :: r = [48]
          · have h0' : decide (c :: r = [48]) = true := decide_eq_true h0
            simp only [F_run_word, b_run_word, eVar_at, kVar_some, eC_at, eBin_at, k2_some, k3_some, eUn_at, k1_some, kVal_some, kBl_some, kEq_at, kBlN_some, kNe_at, kIn_at, kNotIn_at, kIx_at, ixO_tup, kLt_int, kLe_int, kGt_int, kGe_int, kLt_str, kLe_str, kGt_str, kGe_str, kIs_non, kIs_bl, kIs_int, kIs_str, kIs_tup, kIs_ref, kIsNot_non, kIsNot_bl, kIsNot_int, kIsNot_str, kIsNot_tup, kIsNot_ref, opAdd_int, opAdd_str, opSub_int, opMul_int, opDiv_int, opMod_int, opPow_int, opAnd_int, opOr_int, opNeg_int, eChain_at, kc1_some, kc2_some, kc3_true, kc3_false, kc4_some, tOf_at, kTru_some, kTru2_some, truD_non, truD_bl, truD_int, truD_tup, tAnd_at, kAnd_true, kAnd_false, tOr_at, kOr_true, kOr_false, tNot_at, kNot_some, tYes_at, eAnd_at, keAnd_some, keAnd2_true, keAnd2_false, eOr_at, keOr_some, keOr2_true, keOr2_false, eNot_at, keNot_some, keNot2_some, eIf_at, keIf_true, keIf_false, aNil_at, aCons_at, ka1_some, ka2_some, eTup_at, kTup_0, kTup_1, kTup_2, kTup_3, kTup_4, kTup_5, kTup_6, eLst_at, kLst_0, kLst_1, kLst_2, kLst_3, kLst_4, eDic0_at, eCall_at, kCall_some, o1_at, isiO_at, kIsi_some, tyD_non, tyD_bl, tyD_int, tyD_str, tyD_tup, eBM_at, kbm1_some, kbm2_some, eSl_at, ks2_some, ks3_some, ks4_some, oNone_at, oSome_at, kSome_int, slO_str, sSeq_at, kSeq_nx, kSeq_rt, kSeq_bk, kSeq_ct, sNext_at, sBreak_at, sCont_at, sRetN_at, sRet_at, kRet_some, sExpr_at, kExpr_some, sSet_at, kSet_some, sIf_at, kIf_true, kIf_false, sPar2_k, kPar2_some, sPar3_k, kPar3_some, sAsg_at, kAsg_some, kAsg2_some, mName_at, mTup_2, mTup_3, mCons_at, kmCons_some, mNil_at, sPut_at, kp1_some, kp2_some, kp3_some, kp4_some, kFn_rt, kFn_nx, mkFn_0, mkFn_1, mkFn_2, mkFn_3, mkFn_4, mkFn_5, sWhile_at, List.getElem?_cons_zero, List.getElem?_cons_succ, List.set_cons_zero, List.set_cons_succ, List.replicate_succ, List.replicate_zero, Nat.reduceSub, Bool.not_true, Bool.not_false, ite_true, ite_false, if_true, if_false, reduceCtorEq, fldM_at, sFldM_at, kSF1_some, kSF2_some, kSF3_some, sFldAddM_at, kSA1_some, kSA2_int, eMake_at, kMk1_some, kMk2_some, isCM_at, isCO_non, eGet1_at, kG12_some, kG13_some, eGet2_at, kG22_some, kG23_some, eCallD_at, kCallD_some, eKdx_at, kKdx_some, kIsB_at, kEqE_at, kNeE_at, kInN_at, minF_at, dictF_at, atI0, atI1, eq_str, ixO_tup, lenO_tup, mTup_2, List.cons.injEq, Nat.reduceEqDiff, decide_false, decide_true, and_false, and_true, false_and, true_and, Bool.or_false, Bool.or_true, Bool.true_or, Bool.false_or, Bool.and_true, Bool.and_false, Bool.false_and, Bool.true_and, eReprC_at, kRep2_some, kRep3_some, Int.reduceLE, Int.reduceLT, t, e, iss, d1, ln, hq, hq', decide_true, h0', it, if_true, if_false, dO, Wo.d, -List.cons.injEq]
          · have h0' : decide (c :: r = [48]) = false := decide_eq_false h0
            by_cases h48 : c = 48
            · have h48' : decide ([c] = [48]) = true := by rw [d0]; exact decide_eq_true h48
              have h49' : decide (c = 48) = true := decide_eq_true h48
              simp only [F_run_word, b_run_word, eVar_at, kVar_some, eC_at, eBin_at, k2_some, k3_some, eUn_at, k1_some, kVal_some, kBl_some, kEq_at, kBlN_some, kNe_at, kIn_at, kNotIn_at, kIx_at, ixO_tup, kLt_int, kLe_int, kGt_int, kGe_int, kLt_str, kLe_str, kGt_str, kGe_str, kIs_non, kIs_bl, kIs_int, kIs_str, kIs_tup, kIs_ref, kIsNot_non, kIsNot_bl, kIsNot_int, kIsNot_str, kIsNot_tup, kIsNot_ref, opAdd_int, opAdd_str, opSub_int, opMul_int, opDiv_int, opMod_int, opPow_int, opAnd_int, opOr_int, opNeg_int, eChain_at, kc1_some, kc2_some, kc3_true, kc3_false, kc4_some, tOf_at, kTru_some, kTru2_some, truD_non, truD_bl, truD_int, truD_tup, tAnd_at, kAnd_true, kAnd_false, tOr_at, kOr_true, kOr_false, tNot_at, kNot_some, tYes_at, eAnd_at, keAnd_some, keAnd2_true, keAnd2_false, eOr_at, keOr_some, keOr2_true, keOr2_false, eNot_at, keNot_some, keNot2_some, eIf_at, keIf_true, keIf_false, aNil_at, aCons_at, ka1_some, ka2_some, eTup_at, kTup_0, kTup_1, kTup_2, kTup_3, kTup_4, kTup_5, kTup_6, eLst_at, kLst_0, kLst_1, kLst_2, kLst_3, kLst_4, eDic0_at, eCall_at, kCall_some, o1_at, isiO_at, kIsi_some, tyD_non, tyD_bl, tyD_int, tyD_str, tyD_tup, eBM_at, kbm1_some, kbm2_some, eSl_at, ks2_some, ks3_some, ks4_some, oNone_at, oSome_at, kSome_int, slO_str, sSeq_at, kSeq_nx, kSeq_rt, kSeq_bk, kSeq_ct, sNext_at, sBreak_at, sCont_at, sRetN_at, sRet_at, kRet_some, sExpr_at, kExpr_some, sSet_at, kSet_some, sIf_at, kIf_true, kIf_false, sPar2_k, kPar2_some, sPar3_k, kPar3_some, sAsg_at, kAsg_some, kAsg2_some, mName_at, mTup_2, mTup_3, mCons_at, kmCons_some, mNil_at, sPut_at, kp1_some, kp2_some, kp3_some, kp4_some, kFn_rt, kFn_nx, mkFn_0, mkFn_1, mkFn_2, mkFn_3, mkFn_4, mkFn_5, sWhile_at, List.getElem?_cons_zero, List.getElem?_cons_succ, List.set_cons_zero, List.set_cons_succ, List.replicate_succ, List.replicate_zero, Nat.reduceSub, Bool.not_true, Bool.not_false, ite_true, ite_false, if_true, if_false, reduceCtorEq, fldM_at, sFldM_at, kSF1_some, kSF2_some, kSF3_some, sFldAddM_at, kSA1_some, kSA2_int, eMake_at, kMk1_some, kMk2_some, isCM_at, isCO_non, eGet1_at, kG12_some, kG13_some, eGet2_at, kG22_some, kG23_some, eCallD_at, kCallD_some, eKdx_at, kKdx_some, kIsB_at, kEqE_at, kNeE_at, kInN_at, minF_at, dictF_at, atI0, atI1, eq_str, ixO_tup, lenO_tup, mTup_2, List.cons.injEq, Nat.reduceEqDiff, decide_false, decide_true, and_false, and_true, false_and, true_and, Bool.or_false, Bool.or_true, Bool.true_or, Bool.false_or, Bool.and_true, Bool.and_false, Bool.false_and, Bool.true_and, eReprC_at, kRep2_some, kRep3_some, Int.reduceLE, Int.reduceLT, t, e, iss, d1, ln, hq, hq', decide_true, h0', x0, h48', h49', if_true, if_false, dO, Wo.d, -List.cons.injEq]
            · have h48' : decide ([c] = [48]) = false := by rw [d0]; exact decide_eq_false h48
              have h49' : decide (c = 48) = false := decide_eq_false h48
              simp only [F_run_word, b_run_word, eVar_at, kVar_some, eC_at, eBin_at, k2_some, k3_some, eUn_at, k1_some, kVal_some, kBl_some, kEq_at, kBlN_some, kNe_at, kIn_at, kNotIn_at, kIx_at, ixO_tup, kLt_int, kLe_int, kGt_int, kGe_int, kLt_str, kLe_str, kGt_str, kGe_str, kIs_non, kIs_bl, kIs_int, kIs_str, kIs_tup, kIs_ref, kIsNot_non, kIsNot_bl, kIsNot_int, kIsNot_str, kIsNot_tup, kIsNot_ref, opAdd_int, opAdd_str, opSub_int, opMul_int, opDiv_int, opMod_int, opPow_int, opAnd_int, opOr_int, opNeg_int, eChain_at, kc1_some, kc2_some, kc3_true, kc3_false, kc4_some, tOf_at, kTru_some, kTru2_some, truD_non, truD_bl, truD_int, truD_tup, tAnd_at, kAnd_true, kAnd_false, tOr_at, kOr_true, kOr_false, tNot_at, kNot_some, tYes_at, eAnd_at, keAnd_some, keAnd2_true, keAnd2_false, eOr_at, keOr_some, keOr2_true, keOr2_false, eNot_at, keNot_some, keNot2_some, eIf_at, keIf_true, keIf_false, aNil_at, aCons_at, ka1_some, ka2_some, eTup_at, kTup_0, kTup_1, kTup_2, kTup_3, kTup_4, kTup_5, kTup_6, eLst_at, kLst_0, kLst_1, kLst_2, kLst_3, kLst_4, eDic0_at, eCall_at, kCall_some, o1_at, isiO_at, kIsi_some, tyD_non, tyD_bl, tyD_int, tyD_str, tyD_tup, eBM_at, kbm1_some, kbm2_some, eSl_at, ks2_some, ks3_some, ks4_some, oNone_at, oSome_at, kSome_int, slO_str, sSeq_at, kSeq_nx, kSeq_rt, kSeq_bk, kSeq_ct, sNext_at, sBreak_at, sCont_at, sRetN_at, sRet_at, kRet_some, sExpr_at, kExpr_some, sSet_at, kSet_some, sIf_at, kIf_true, kIf_false, sPar2_k, kPar2_some, sPar3_k, kPar3_some, sAsg_at, kAsg_some, kAsg2_some, mName_at, mTup_2, mTup_3, mCons_at, kmCons_some, mNil_at, sPut_at, kp1_some, kp2_some, kp3_some, kp4_some, kFn_rt, kFn_nx, mkFn_0, mkFn_1, mkFn_2, mkFn_3, mkFn_4, mkFn_5, sWhile_at, List.getElem?_cons_zero, List.getElem?_cons_succ, List.set_cons_zero, List.set_cons_succ, List.replicate_succ, List.replicate_zero, Nat.reduceSub, Bool.not_true, Bool.not_false, ite_true, ite_false, if_true, if_false, reduceCtorEq, fldM_at, sFldM_at, kSF1_some, kSF2_some, kSF3_some, sFldAddM_at, kSA1_some, kSA2_int, eMake_at, kMk1_some, kMk2_some, isCM_at, isCO_non, eGet1_at, kG12_some, kG13_some, eGet2_at, kG22_some, kG23_some, eCallD_at, kCallD_some, eKdx_at, kKdx_some, kIsB_at, kEqE_at, kNeE_at, kInN_at, minF_at, dictF_at, atI0, atI1, eq_str, ixO_tup, lenO_tup, mTup_2, List.cons.injEq, Nat.reduceEqDiff, decide_false, decide_true, and_false, and_true, false_and, true_and, Bool.or_false, Bool.or_true, Bool.true_or, Bool.false_or, Bool.and_true, Bool.and_false, Bool.false_and, Bool.true_and, eReprC_at, kRep2_some, kRep3_some, Int.reduceLE, Int.reduceLT, t, e, iss, d1, ln, hq, hq', decide_true, h0', x0, h48', h49', it, if_true, if_false, dO, Wo.d, -List.cons.injEq]
        · have hq' : ¬ (((c :: r).length : Int) ≤ 12) := by omega
          simp only [F_run_word, b_run_word, eVar_at, kVar_some, eC_at, eBin_at, k2_some, k3_some, eUn_at, k1_some, kVal_some, kBl_some, kEq_at, kBlN_some, kNe_at, kIn_at, kNotIn_at, kIx_at, ixO_tup, kLt_int, kLe_int, kGt_int, kGe_int, kLt_str, kLe_str, kGt_str, kGe_str, kIs_non, kIs_bl, kIs_int, kIs_str, kIs_tup, kIs_ref, kIsNot_non, kIsNot_bl, kIsNot_int, kIsNot_str, kIsNot_tup, kIsNot_ref, opAdd_int, opAdd_str, opSub_int, opMul_int, opDiv_int, opMod_int, opPow_int, opAnd_int, opOr_int, opNeg_int, eChain_at, kc1_some, kc2_some, kc3_true, kc3_false, kc4_some, tOf_at, kTru_some, kTru2_some, truD_non, truD_bl, truD_int, truD_tup, tAnd_at, kAnd_true, kAnd_false, tOr_at, kOr_true, kOr_false, tNot_at, kNot_some, tYes_at, eAnd_at, keAnd_some, keAnd2_true, keAnd2_false, eOr_at, keOr_some, keOr2_true, keOr2_false, eNot_at, keNot_some, keNot2_some, eIf_at, keIf_true, keIf_false, aNil_at, aCons_at, ka1_some, ka2_some, eTup_at, kTup_0, kTup_1, kTup_2, kTup_3, kTup_4, kTup_5, kTup_6, eLst_at, kLst_0, kLst_1, kLst_2, kLst_3, kLst_4, eDic0_at, eCall_at, kCall_some, o1_at, isiO_at, kIsi_some, tyD_non, tyD_bl, tyD_int, tyD_str, tyD_tup, eBM_at, kbm1_some, kbm2_some, eSl_at, ks2_some, ks3_some, ks4_some, oNone_at, oSome_at, kSome_int, slO_str, sSeq_at, kSeq_nx, kSeq_rt, kSeq_bk, kSeq_ct, sNext_at, sBreak_at, sCont_at, sRetN_at, sRet_at, kRet_some, sExpr_at, kExpr_some, sSet_at, kSet_some, sIf_at, kIf_true, kIf_false, sPar2_k, kPar2_some, sPar3_k, kPar3_some, sAsg_at, kAsg_some, kAsg2_some, mName_at, mTup_2, mTup_3, mCons_at, kmCons_some, mNil_at, sPut_at, kp1_some, kp2_some, kp3_some, kp4_some, kFn_rt, kFn_nx, mkFn_0, mkFn_1, mkFn_2, mkFn_3, mkFn_4, mkFn_5, sWhile_at, List.getElem?_cons_zero, List.getElem?_cons_succ, List.set_cons_zero, List.set_cons_succ, List.replicate_succ, List.replicate_zero, Nat.reduceSub, Bool.not_true, Bool.not_false, ite_true, ite_false, if_true, if_false, reduceCtorEq, fldM_at, sFldM_at, kSF1_some, kSF2_some, kSF3_some, sFldAddM_at, kSA1_some, kSA2_int, eMake_at, kMk1_some, kMk2_some, isCM_at, isCO_non, eGet1_at, kG12_some, kG13_some, eGet2_at, kG22_some, kG23_some, eCallD_at, kCallD_some, eKdx_at, kKdx_some, kIsB_at, kEqE_at, kNeE_at, kInN_at, minF_at, dictF_at, atI0, atI1, eq_str, ixO_tup, lenO_tup, mTup_2, List.cons.injEq, Nat.reduceEqDiff, decide_false, decide_true, and_false, and_true, false_and, true_and, Bool.or_false, Bool.or_true, Bool.true_or, Bool.false_or, Bool.and_true, Bool.and_false, Bool.false_and, Bool.true_and, eReprC_at, kRep2_some, kRep3_some, Int.reduceLE, Int.reduceLT, t, e, iss, d1, ln, hq, hq', decide_false, if_true, if_false, dO, Wo.d]
end Math

set_option maxRecDepth 100000
set_option maxHeartbeats 4000000
namespace Math
open MP Text PySem
abbrev TT : List Nat := [97, 110, 100, 32, 97, 115, 32, 98, 114, 101, 97, 107, 32, 99, 108, 97, 115, 115, 32, 99, 111, 110, 116, 105, 110, 117, 101, 32, 100, 101, 102, 32, 101, 108, 105, 102, 32, 101, 108, 115, 101, 32, 101, 120, 99, 101, 112, 116, 32, 70, 97, 108, 115, 101, 32, 102, 105, 110, 97, 108, 108, 121, 32, 102, 111, 114, 32, 102, 114, 111, 109, 32, 103, 108, 111, 98, 97, 108, 32, 105, 102, 32, 105, 110, 32, 78, 111, 110, 101, 32, 110, 111, 110, 108, 111, 99, 97, 108, 32, 110, 111, 116, 32, 111, 114, 32, 112, 97, 115, 115, 32, 114, 97, 105, 115, 101, 32, 114, 101, 116, 117, 114, 110, 32, 84, 114, 117, 101, 32, 116, 114, 121, 32, 119, 104, 105, 108, 101, 32, 121, 105, 101, 108, 100]
theorem split_told : okTs (Txt.split (mkS TT) (mkS [32])) = some (TL0.map D.str) := by kernel_rfl
theorem ltold_is (st : Sto) : F_l_told [] st = some (.ref st.length, st ++ [.lst (TL0.map D.str)]) := by
  have a1 : ∀ s, opAdd (.str [97, 110, 100, 32, 97, 115, 32, 98, 114, 101, 97, 107, 32, 99, 108, 97, 115, 115, 32, 99, 111, 110, 116, 105, 110, 117, 101, 32, 100, 101, 102, 32, 101, 108, 105, 102, 32, 101, 108, 115, 101, 32, 101, 120, 99, 101, 112, 116, 32, 70, 97, 108, 115, 101, 32, 102, 105, 110, 97, 108, 108, 121, 32, 102, 111, 114, 32, 102, 114, 111, 109, 32, 103, 108, 111, 98, 97, 108, 32, 105, 102, 32, 105, 110, 32, 78, 111, 110, 101]) (.str [32, 110, 111, 110, 108, 111, 99, 97, 108, 32, 110, 111, 116, 32, 111, 114, 32, 112, 97, 115, 115, 32, 114, 97, 105, 115, 101, 32, 114, 101, 116, 117, 114, 110, 32, 84, 114, 117, 101, 32, 116, 114, 121, 32, 119, 104, 105, 108, 101, 32, 121, 105, 101, 108, 100]) s = some (.str TT, s) := fun _ => rfl
  have s1 : splitM (.str TT) [.str [32]] st = some (.ref st.length, st ++ [.lst (TL0.map D.str)]) := by
    have c : ([32] : List Nat) ≠ [] ∧ TT.length + 2 ≤ LIM := by decide
    show (if ([32] : List Nat) ≠ [] ∧ TT.length + 2 ≤ LIM then Option.map _ (okTs (Txt.split (mkS TT) (mkS [32]))) else none) = _
    rw [if_pos c, split_told]
    rfl
  have iss : isS st (.str TT) = true := rfl
  show mkFn 1 0 b_l_told _ _ = _
  rw [mkFn_0]
  simp only [b_l_told, eVar_at, kVar_some, eC_at, eBin_at, k2_some, k3_some, eUn_at, k1_some, kVal_some, kBl_some, kEq_at, kBlN_some, kNe_at, kIn_at, kNotIn_at, kIx_at, ixO_tup, kLt_int, kLe_int, kGt_int, kGe_int, kLt_str, kLe_str, kGt_str, kGe_str, kIs_non, kIs_bl, kIs_int, kIs_str, kIs_tup, kIs_ref, kIsNot_non, kIsNot_bl, kIsNot_int, kIsNot_str, kIsNot_tup, kIsNot_ref, opAdd_int, opAdd_str, opSub_int, opMul_int, opDiv_int, opMod_int, opPow_int, opAnd_int, opOr_int, opNeg_int, eChain_at, kc1_some, kc2_some, kc3_true, kc3_false, kc4_some, tOf_at, kTru_some, kTru2_some, truD_non, truD_bl, truD_int, truD_tup, tAnd_at, kAnd_true, kAnd_false, tOr_at, kOr_true, kOr_false, tNot_at, kNot_some, tYes_at, eAnd_at, keAnd_some, keAnd2_true, keAnd2_false, eOr_at, keOr_some, keOr2_true, keOr2_false, eNot_at, keNot_some, keNot2_some, eIf_at, keIf_true, keIf_false, aNil_at, aCons_at, ka1_some, ka2_some, eTup_at, kTup_0, kTup_1, kTup_2, kTup_3, kTup_4, kTup_5, kTup_6, eLst_at, kLst_0, kLst_1, kLst_2, kLst_3, kLst_4, eDic0_at, eCall_at, kCall_some, o1_at, isiO_at, kIsi_some, tyD_non, tyD_bl, tyD_int, tyD_str, tyD_tup, eBM_at, kbm1_some, kbm2_some, eSl_at, ks2_some, ks3_some, ks4_some, oNone_at, oSome_at, kSome_int, slO_str, sSeq_at, kSeq_nx, kSeq_rt, kSeq_bk, kSeq_ct, sNext_at, sBreak_at, sCont_at, sRetN_at, sRet_at, kRet_some, sExpr_at, kExpr_some, sSet_at, kSet_some, sIf_at, kIf_true, kIf_false, sPar2_k, kPar2_some, sPar3_k, kPar3_some, sAsg_at, kAsg_some, kAsg2_some, mName_at, mTup_2, mTup_3, mCons_at, kmCons_some, mNil_at, sPut_at, kp1_some, kp2_some, kp3_some, kp4_some, kFn_rt, kFn_nx, mkFn_0, mkFn_1, mkFn_2, mkFn_3, mkFn_4, mkFn_5, sWhile_at, List.getElem?_cons_zero, List.getElem?_cons_succ, List.set_cons_zero, List.set_cons_succ, List.replicate_succ, List.replicate_zero, Nat.reduceSub, Bool.not_true, Bool.not_false, ite_true, ite_false, if_true, if_false, reduceCtorEq, fldM_at, sFldM_at, kSF1_some, kSF2_some, kSF3_some, sFldAddM_at, kSA1_some, kSA2_int, eMake_at, kMk1_some, kMk2_some, isCM_at, isCO_non, eGet1_at, kG12_some, kG13_some, eGet2_at, kG22_some, kG23_some, eCallD_at, kCallD_some, eKdx_at, kKdx_some, kIsB_at, kEqE_at, kNeE_at, kInN_at, minF_at, dictF_at, atI0, atI1, eq_str, ixO_tup, lenO_tup, mTup_2, List.cons.injEq, Nat.reduceEqDiff, decide_false, decide_true, and_false, and_true, false_and, true_and, Bool.or_false, Bool.or_true, Bool.true_or, Bool.false_or, Bool.and_true, Bool.and_false, Bool.false_and, Bool.true_and, eReprC_at, kRep2_some, kRep3_some, Int.reduceLE, Int.reduceLT, a1, iss, s1, -opAdd_str]
theorem let_fig : ∀ c ∈ LET, c ∉ FIG := by decide +kernel
theorem w_cases : ∀ c ∈ LFU, c ∈ LET ∨ c ∈ FIG ∨ c = 95 := by decide +kernel
theorem us_fig : (95 : Nat) ∉ FIG := by decide
theorem us_let : (95 : Nat) ∉ LET := by decide
theorem lrun_is {c : Nat} {r : List Nat} (h : Run (c :: r)) (st : Sto) : ∃ g, F_l_run [.str (c :: r)] st = some (dO (runO c r), st ++ g) := by
  have hl : (c :: r).length ≤ 100000 := by
    have := h.le
    omega
  have hc : c ∈ LFU := of_decide_eq_true (h.w c (.head _))
  have tl := ltold_is st
  have i1 := in_ref (st ++ [.lst (TL0.map D.str)]) (c :: r) (rdL_end st (TL0.map D.str) [])
  have hT : decide (c :: r ∈ TL0) = isT (c :: r) := rfl
  rw [hT] at i1
  refine ⟨[.lst (TL0.map D.str)], ?_⟩
  unfold runO
  cases ht : isT (c :: r) with
  | true =>
    rw [ht] at i1
    simp only [F_l_run, b_l_run, eVar_at, kVar_some, eC_at, eBin_at, k2_some, k3_some, eUn_at, k1_some, kVal_some, kBl_some, kEq_at, kBlN_some, kNe_at, kIn_at, kNotIn_at, kIx_at, ixO_tup, kLt_int, kLe_int, kGt_int, kGe_int, kLt_str, kLe_str, kGt_str, kGe_str, kIs_non, kIs_bl, kIs_int, kIs_str, kIs_tup, kIs_ref, kIsNot_non, kIsNot_bl, kIsNot_int, kIsNot_str, kIsNot_tup, kIsNot_ref, opAdd_int, opAdd_str, opSub_int, opMul_int, opDiv_int, opMod_int, opPow_int, opAnd_int, opOr_int, opNeg_int, eChain_at, kc1_some, kc2_some, kc3_true, kc3_false, kc4_some, tOf_at, kTru_some, kTru2_some, truD_non, truD_bl, truD_int, truD_tup, tAnd_at, kAnd_true, kAnd_false, tOr_at, kOr_true, kOr_false, tNot_at, kNot_some, tYes_at, eAnd_at, keAnd_some, keAnd2_true, keAnd2_false, eOr_at, keOr_some, keOr2_true, keOr2_false, eNot_at, keNot_some, keNot2_some, eIf_at, keIf_true, keIf_false, aNil_at, aCons_at, ka1_some, ka2_some, eTup_at, kTup_0, kTup_1, kTup_2, kTup_3, kTup_4, kTup_5, kTup_6, eLst_at, kLst_0, kLst_1, kLst_2, kLst_3, kLst_4, eDic0_at, eCall_at, kCall_some, o1_at, isiO_at, kIsi_some, tyD_non, tyD_bl, tyD_int, tyD_str, tyD_tup, eBM_at, kbm1_some, kbm2_some, eSl_at, ks2_some, ks3_some, ks4_some, oNone_at, oSome_at, kSome_int, slO_str, sSeq_at, kSeq_nx, kSeq_rt, kSeq_bk, kSeq_ct, sNext_at, sBreak_at, sCont_at, sRetN_at, sRet_at, kRet_some, sExpr_at, kExpr_some, sSet_at, kSet_some, sIf_at, kIf_true, kIf_false, sPar2_k, kPar2_some, sPar3_k, kPar3_some, sAsg_at, kAsg_some, kAsg2_some, mName_at, mTup_2, mTup_3, mCons_at, kmCons_some, mNil_at, sPut_at, kp1_some, kp2_some, kp3_some, kp4_some, kFn_rt, kFn_nx, mkFn_0, mkFn_1, mkFn_2, mkFn_3, mkFn_4, mkFn_5, sWhile_at, List.getElem?_cons_zero, List.getElem?_cons_succ, List.set_cons_zero, List.set_cons_succ, List.replicate_succ, List.replicate_zero, Nat.reduceSub, Bool.not_true, Bool.not_false, ite_true, ite_false, if_true, if_false, reduceCtorEq, fldM_at, sFldM_at, kSF1_some, kSF2_some, kSF3_some, sFldAddM_at, kSA1_some, kSA2_int, eMake_at, kMk1_some, kMk2_some, isCM_at, isCO_non, eGet1_at, kG12_some, kG13_some, eGet2_at, kG22_some, kG23_some, eCallD_at, kCallD_some, eKdx_at, kKdx_some, kIsB_at, kEqE_at, kNeE_at, kInN_at, minF_at, dictF_at, atI0, atI1, eq_str, ixO_tup, lenO_tup, mTup_2, List.cons.injEq, Nat.reduceEqDiff, decide_false, decide_true, and_false, and_true, false_and, true_and, Bool.or_false, Bool.or_true, Bool.true_or, Bool.false_or, Bool.and_true, Bool.and_false, Bool.false_and, Bool.true_and, eReprC_at, kRep2_some, kRep3_some, Int.reduceLE, Int.reduceLT, tl, i1, if_true, dO, Wo.d]
  | false =>
    rw [ht] at i1
    generalize st ++ [Ob.lst (TL0.map D.str)] = s1 at tl i1
    have x0 : ixO (.str (c :: r)) (.int 0) s1 = some (.str [c]) := ix_pre [] c r hl s1
    have i2 := in_one s1 c FIG
    have d1 := isdigit_run h s1
    have ln := len_str (c :: r) hl s1
    have iss : isS s1 (.str (c :: r)) = true := rfl
    have d48 := dec_one c 48
    have d95 := dec_one c 95
    by_cases hf : c ∈ FIG
    · have hlet : decide (c ∈ LET) = false := decide_eq_false fun z => let_fig c z hf
      rw [decide_eq_true hf] at i2
      rw [hlet, Bool.and_false]
      cases hd : allF (c :: r) with
      | false =>
        rw [hd] at d1
        simp only [F_l_run, b_l_run, eVar_at, kVar_some, eC_at, eBin_at, k2_some, k3_some, eUn_at, k1_some, kVal_some, kBl_some, kEq_at, kBlN_some, kNe_at, kIn_at, kNotIn_at, kIx_at, ixO_tup, kLt_int, kLe_int, kGt_int, kGe_int, kLt_str, kLe_str, kGt_str, kGe_str, kIs_non, kIs_bl, kIs_int, kIs_str, kIs_tup, kIs_ref, kIsNot_non, kIsNot_bl, kIsNot_int, kIsNot_str, kIsNot_tup, kIsNot_ref, opAdd_int, opAdd_str, opSub_int, opMul_int, opDiv_int, opMod_int, opPow_int, opAnd_int, opOr_int, opNeg_int, eChain_at, kc1_some, kc2_some, kc3_true, kc3_false, kc4_some, tOf_at, kTru_some, kTru2_some, truD_non, truD_bl, truD_int, truD_tup, tAnd_at, kAnd_true, kAnd_false, tOr_at, kOr_true, kOr_false, tNot_at, kNot_some, tYes_at, eAnd_at, keAnd_some, keAnd2_true, keAnd2_false, eOr_at, keOr_some, keOr2_true, keOr2_false, eNot_at, keNot_some, keNot2_some, eIf_at, keIf_true, keIf_false, aNil_at, aCons_at, ka1_some, ka2_some, eTup_at, kTup_0, kTup_1, kTup_2, kTup_3, kTup_4, kTup_5, kTup_6, eLst_at, kLst_0, kLst_1, kLst_2, kLst_3, kLst_4, eDic0_at, eCall_at, kCall_some, o1_at, isiO_at, kIsi_some, tyD_non, tyD_bl, tyD_int, tyD_str, tyD_tup, eBM_at, kbm1_some, kbm2_some, eSl_at, ks2_some, ks3_some, ks4_some, oNone_at, oSome_at, kSome_int, slO_str, sSeq_at, kSeq_nx, kSeq_rt, kSeq_bk, kSeq_ct, sNext_at, sBreak_at, sCont_at, sRetN_at, sRet_at, kRet_some, sExpr_at, kExpr_some, sSet_at, kSet_some, sIf_at, kIf_true, kIf_false, sPar2_k, kPar2_some, sPar3_k, kPar3_some, sAsg_at, kAsg_some, kAsg2_some, mName_at, mTup_2, mTup_3, mCons_at, kmCons_some, mNil_at, sPut_at, kp1_some, kp2_some, kp3_some, kp4_some, kFn_rt, kFn_nx, mkFn_0, mkFn_1, mkFn_2, mkFn_3, mkFn_4, mkFn_5, sWhile_at, List.getElem?_cons_zero, List.getElem?_cons_succ, List.set_cons_zero, List.set_cons_succ, List.replicate_succ, List.replicate_zero, Nat.reduceSub, Bool.not_true, Bool.not_false, ite_true, ite_false, if_true, if_false, reduceCtorEq, fldM_at, sFldM_at, kSF1_some, kSF2_some, kSF3_some, sFldAddM_at, kSA1_some, kSA2_int, eMake_at, kMk1_some, kMk2_some, isCM_at, isCO_non, eGet1_at, kG12_some, kG13_some, eGet2_at, kG22_some, kG23_some, eCallD_at, kCallD_some, eKdx_at, kKdx_some, kIsB_at, kEqE_at, kNeE_at, kInN_at, minF_at, dictF_at, atI0, atI1, eq_str, ixO_tup, lenO_tup, mTup_2, List.cons.injEq, Nat.reduceEqDiff, decide_false, decide_true, and_false, and_true, false_and, true_and, Bool.or_false, Bool.or_true, Bool.true_or, Bool.false_or, Bool.and_true, Bool.and_false, Bool.false_and, Bool.true_and, eReprC_at, kRep2_some, kRep3_some, Int.reduceLE, Int.reduceLT, tl, i1, x0, i2, iss, d1, if_true, if_false, dO, Wo.d]
      | true =>
        rw [hd] at d1
        by_cases hq : (c :: r).length ≤ 12
        · have hq' : ¬ (((c :: r).length : Int) > 12) := by omega
          have hq2 : decide ((c :: r).length ≤ 12) = true := decide_eq_true hq
          have it := int_run h hd hq s1
          by_cases h48 : c = 48
          · have e1 : decide ([c] = [48]) = true := by rw [d48]; exact decide_eq_true h48
            have e2 : decide (c = 48) = true := decide_eq_true h48
            by_cases h0 : c :: r = [48]
            · have h0' : decide (c :: r = [48]) = true := decide_eq_true h0
              simp only [F_l_run, b_l_run, eVar_at, kVar_some, eC_at, eBin_at, k2_some, k3_some, eUn_at, k1_some, kVal_some, kBl_some, kEq_at, kBlN_some, kNe_at, kIn_at, kNotIn_at, kIx_at, ixO_tup, kLt_int, kLe_int, kGt_int, kGe_int, kLt_str, kLe_str, kGt_str, kGe_str, kIs_non, kIs_bl, kIs_int, kIs_str, kIs_tup, kIs_ref, kIsNot_non, kIsNot_bl, kIsNot_int, kIsNot_str, kIsNot_tup, kIsNot_ref, opAdd_int, opAdd_str, opSub_int, opMul_int, opDiv_int, opMod_int, opPow_int, opAnd_int, opOr_int, opNeg_int, eChain_at, kc1_some, kc2_some, kc3_true, kc3_false, kc4_some, tOf_at, kTru_some, kTru2_some, truD_non, truD_bl, truD_int, truD_tup, tAnd_at, kAnd_true, kAnd_false, tOr_at, kOr_true, kOr_false, tNot_at, kNot_some, tYes_at, eAnd_at, keAnd_some, keAnd2_true, keAnd2_false, eOr_at, keOr_some, keOr2_true, keOr2_false, eNot_at, keNot_some, keNot2_some, eIf_at, keIf_true, keIf_false, aNil_at, aCons_at, ka1_some, ka2_some, eTup_at, kTup_0, kTup_1, kTup_2, kTup_3, kTup_4, kTup_5, kTup_6, eLst_at, kLst_0, kLst_1, kLst_2, kLst_3, kLst_4, eDic0_at, eCall_at, kCall_some, o1_at, isiO_at, kIsi_some, tyD_non, tyD_bl, tyD_int, tyD_str, tyD_tup, eBM_at, kbm1_some, kbm2_some, eSl_at, ks2_some, ks3_some, ks4_some, oNone_at, oSome_at, kSome_int, slO_str, sSeq_at, kSeq_nx, kSeq_rt, kSeq_bk, kSeq_ct, sNext_at, sBreak_at, sCont_at, sRetN_at, sRet_at, kRet_some, sExpr_at, kExpr_some, sSet_at, kSet_some, sIf_at, kIf_true, kIf_false, sPar2_k, kPar2_some, sPar3_k, kPar3_some, sAsg_at, kAsg_some, kAsg2_some, mName_at, mTup_2, mTup_3, mCons_at, kmCons_some, mNil_at, sPut_at, kp1_some, kp2_some, kp3_some, kp4_some, kFn_rt, kFn_nx, mkFn_0, mkFn_1, mkFn_2, mkFn_3, mkFn_4, mkFn_5, sWhile_at, List.getElem?_cons_zero, List.getElem?_cons_succ, List.set_cons_zero, List.set_cons_succ, List.replicate_succ, List.replicate_zero, Nat.reduceSub, Bool.not_true, Bool.not_false, ite_true, ite_false, if_true, if_false, reduceCtorEq, fldM_at, sFldM_at, kSF1_some, kSF2_some, kSF3_some, sFldAddM_at, kSA1_some, kSA2_int, eMake_at, kMk1_some, kMk2_some, isCM_at, isCO_non, eGet1_at, kG12_some, kG13_some, eGet2_at, kG22_some, kG23_some, eCallD_at, kCallD_some, eKdx_at, kKdx_some, kIsB_at, kEqE_at, kNeE_at, kInN_at, minF_at, dictF_at, atI0, atI1, eq_str, ixO_tup, lenO_tup, mTup_2, List.cons.injEq, Nat.reduceEqDiff, decide_false, decide_true, and_false, and_true, false_and, true_and, Bool.or_false, Bool.or_true, Bool.true_or, Bool.false_or, Bool.and_true, Bool.and_false, Bool.false_and, Bool.true_and, eReprC_at, kRep2_some, kRep3_some, Int.reduceLE, Int.reduceLT, tl, i1, x0, i2, iss, d1, ln, hq2, hq', decide_false, e1, e2, h0', it, if_true, if_false, dO, Wo.d, -List.cons.injEq]
            · have h0' : decide (c :: r = [48]) = false := decide_eq_false h0
              simp only [F_l_run, b_l_run, eVar_at, kVar_some, eC_at, eBin_at, k2_some, k3_some, eUn_at, k1_some, kVal_some, kBl_some, kEq_at, kBlN_some, kNe_at, kIn_at, kNotIn_at, kIx_at, ixO_tup, kLt_int, kLe_int, kGt_int, kGe_int, kLt_str, kLe_str, kGt_str, kGe_str, kIs_non, kIs_bl, kIs_int, kIs_str, kIs_tup, kIs_ref, kIsNot_non, kIsNot_bl, kIsNot_int, kIsNot_str, kIsNot_tup, kIsNot_ref, opAdd_int, opAdd_str, opSub_int, opMul_int, opDiv_int, opMod_int, opPow_int, opAnd_int, opOr_int, opNeg_int, eChain_at, kc1_some, kc2_some, kc3_true, kc3_false, kc4_some, tOf_at, kTru_some, kTru2_some, truD_non, truD_bl, truD_int, truD_tup, tAnd_at, kAnd_true, kAnd_false, tOr_at, kOr_true, kOr_false, tNot_at, kNot_some, tYes_at, eAnd_at, keAnd_some, keAnd2_true, keAnd2_false, eOr_at, keOr_some, keOr2_true, keOr2_false, eNot_at, keNot_some, keNot2_some, eIf_at, keIf_true, keIf_false, aNil_at, aCons_at, ka1_some, ka2_some, eTup_at, kTup_0, kTup_1, kTup_2, kTup_3, kTup_4, kTup_5, kTup_6, eLst_at, kLst_0, kLst_1, kLst_2, kLst_3, kLst_4, eDic0_at, eCall_at, kCall_some, o1_at, isiO_at, kIsi_some, tyD_non, tyD_bl, tyD_int, tyD_str, tyD_tup, eBM_at, kbm1_some, kbm2_some, eSl_at, ks2_some, ks3_some, ks4_some, oNone_at, oSome_at, kSome_int, slO_str, sSeq_at, kSeq_nx, kSeq_rt, kSeq_bk, kSeq_ct, sNext_at, sBreak_at, sCont_at, sRetN_at, sRet_at, kRet_some, sExpr_at, kExpr_some, sSet_at, kSet_some, sIf_at, kIf_true, kIf_false, sPar2_k, kPar2_some, sPar3_k, kPar3_some, sAsg_at, kAsg_some, kAsg2_some, mName_at, mTup_2, mTup_3, mCons_at, kmCons_some, mNil_at, sPut_at, kp1_some, kp2_some, kp3_some, kp4_some, kFn_rt, kFn_nx, mkFn_0, mkFn_1, mkFn_2, mkFn_3, mkFn_4, mkFn_5, sWhile_at, List.getElem?_cons_zero, List.getElem?_cons_succ, List.set_cons_zero, List.set_cons_succ, List.replicate_succ, List.replicate_zero, Nat.reduceSub, Bool.not_true, Bool.not_false, ite_true, ite_false, if_true, if_false, reduceCtorEq, fldM_at, sFldM_at, kSF1_some, kSF2_some, kSF3_some, sFldAddM_at, kSA1_some, kSA2_int, eMake_at, kMk1_some, kMk2_some, isCM_at, isCO_non, eGet1_at, kG12_some, kG13_some, eGet2_at, kG22_some, kG23_some, eCallD_at, kCallD_some, eKdx_at, kKdx_some, kIsB_at, kEqE_at, kNeE_at, kInN_at, minF_at, dictF_at, atI0, atI1, eq_str, ixO_tup, lenO_tup, mTup_2, List.cons.injEq, Nat.reduceEqDiff, decide_false, decide_true, and_false, and_true, false_and, true_and, Bool.or_false, Bool.or_true, Bool.true_or, Bool.false_or, Bool.and_true, Bool.and_false, Bool.false_and, Bool.true_and, eReprC_at, kRep2_some, kRep3_some, Int.reduceLE, Int.reduceLT, tl, i1, x0, i2, iss, d1, ln, hq2, hq', decide_false, e1, e2, h0', it, if_true, if_false, dO, Wo.d, -List.cons.injEq]
          · have e1 : decide ([c] = [48]) = false := by rw [d48]; exact decide_eq_false h48
            have e2 : decide (c = 48) = false := decide_eq_false h48
            simp only [F_l_run, b_l_run, eVar_at, kVar_some, eC_at, eBin_at, k2_some, k3_some, eUn_at, k1_some, kVal_some, kBl_some, kEq_at, kBlN_some, kNe_at, kIn_at, kNotIn_at, kIx_at, ixO_tup, kLt_int, kLe_int, kGt_int, kGe_int, kLt_str, kLe_str, kGt_str, kGe_str, kIs_non, kIs_bl, kIs_int, kIs_str, kIs_tup, kIs_ref, kIsNot_non, kIsNot_bl, kIsNot_int, kIsNot_str, kIsNot_tup, kIsNot_ref, opAdd_int, opAdd_str, opSub_int, opMul_int, opDiv_int, opMod_int, opPow_int, opAnd_int, opOr_int, opNeg_int, eChain_at, kc1_some, kc2_some, kc3_true, kc3_false, kc4_some, tOf_at, kTru_some, kTru2_some, truD_non, truD_bl, truD_int, truD_tup, tAnd_at, kAnd_true, kAnd_false, tOr_at, kOr_true, kOr_false, tNot_at, kNot_some, tYes_at, eAnd_at, keAnd_some, keAnd2_true, keAnd2_false, eOr_at, keOr_some, keOr2_true, keOr2_false, eNot_at, keNot_some, keNot2_some, eIf_at, keIf_true, keIf_false, aNil_at, aCons_at, ka1_some, ka2_some, eTup_at, kTup_0, kTup_1, kTup_2, kTup_3, kTup_4, kTup_5, kTup_6, eLst_at, kLst_0, kLst_1, kLst_2, kLst_3, kLst_4, eDic0_at, eCall_at, kCall_some, o1_at, isiO_at, kIsi_some, tyD_non, tyD_bl, tyD_int, tyD_str, tyD_tup, eBM_at, kbm1_some, kbm2_some, eSl_at, ks2_some, ks3_some, ks4_some, oNone_at, oSome_at, kSome_int, slO_str, sSeq_at, kSeq_nx, kSeq_rt, kSeq_bk, kSeq_ct, sNext_at, sBreak_at, sCont_at, sRetN_at, sRet_at, kRet_some, sExpr_at, kExpr_some, sSet_at, kSet_some, sIf_at, kIf_true, kIf_false, sPar2_k, kPar2_some, sPar3_k, kPar3_some, sAsg_at, kAsg_some, kAsg2_some, mName_at, mTup_2, mTup_3, mCons_at, kmCons_some, mNil_at, sPut_at, kp1_some, kp2_some, kp3_some, kp4_some, kFn_rt, kFn_nx, mkFn_0, mkFn_1, mkFn_2, mkFn_3, mkFn_4, mkFn_5, sWhile_at, List.getElem?_cons_zero, List.getElem?_cons_succ, List.set_cons_zero, List.set_cons_succ, List.replicate_succ, List.replicate_zero, Nat.reduceSub, Bool.not_true, Bool.not_false, ite_true, ite_false, if_true, if_false, reduceCtorEq, fldM_at, sFldM_at, kSF1_some, kSF2_some, kSF3_some, sFldAddM_at, kSA1_some, kSA2_int, eMake_at, kMk1_some, kMk2_some, isCM_at, isCO_non, eGet1_at, kG12_some, kG13_some, eGet2_at, kG22_some, kG23_some, eCallD_at, kCallD_some, eKdx_at, kKdx_some, kIsB_at, kEqE_at, kNeE_at, kInN_at, minF_at, dictF_at, atI0, atI1, eq_str, ixO_tup, lenO_tup, mTup_2, List.cons.injEq, Nat.reduceEqDiff, decide_false, decide_true, and_false, and_true, false_and, true_and, Bool.or_false, Bool.or_true, Bool.true_or, Bool.false_or, Bool.and_true, Bool.and_false, Bool.false_and, Bool.true_and, eReprC_at, kRep2_some, kRep3_some, Int.reduceLE, Int.reduceLT, tl, i1, x0, i2, iss, d1, ln, hq2, hq', decide_false, e1, e2, it, if_true, if_false, dO, Wo.d, -List.cons.injEq]
        · have hq' : ((c :: r).length : Int) > 12 := by omega
          have hq2 : decide ((c :: r).length ≤ 12) = false := decide_eq_false hq
          simp only [F_l_run, b_l_run, eVar_at, kVar_some, eC_at, eBin_at, k2_some, k3_some, eUn_at, k1_some, kVal_some, kBl_some, kEq_at, kBlN_some, kNe_at, kIn_at, kNotIn_at, kIx_at, ixO_tup, kLt_int, kLe_int, kGt_int, kGe_int, kLt_str, kLe_str, kGt_str, kGe_str, kIs_non, kIs_bl, kIs_int, kIs_str, kIs_tup, kIs_ref, kIsNot_non, kIsNot_bl, kIsNot_int, kIsNot_str, kIsNot_tup, kIsNot_ref, opAdd_int, opAdd_str, opSub_int, opMul_int, opDiv_int, opMod_int, opPow_int, opAnd_int, opOr_int, opNeg_int, eChain_at, kc1_some, kc2_some, kc3_true, kc3_false, kc4_some, tOf_at, kTru_some, kTru2_some, truD_non, truD_bl, truD_int, truD_tup, tAnd_at, kAnd_true, kAnd_false, tOr_at, kOr_true, kOr_false, tNot_at, kNot_some, tYes_at, eAnd_at, keAnd_some, keAnd2_true, keAnd2_false, eOr_at, keOr_some, keOr2_true, keOr2_false, eNot_at, keNot_some, keNot2_some, eIf_at, keIf_true, keIf_false, aNil_at, aCons_at, ka1_some, ka2_some, eTup_at, kTup_0, kTup_1, kTup_2, kTup_3, kTup_4, kTup_5, kTup_6, eLst_at, kLst_0, kLst_1, kLst_2, kLst_3, kLst_4, eDic0_at, eCall_at, kCall_some, o1_at, isiO_at, kIsi_some, tyD_non, tyD_bl, tyD_int, tyD_str, tyD_tup, eBM_at, kbm1_some, kbm2_some, eSl_at, ks2_some, ks3_some, ks4_some, oNone_at, oSome_at, kSome_int, slO_str, sSeq_at, kSeq_nx, kSeq_rt, kSeq_bk, kSeq_ct, sNext_at, sBreak_at, sCont_at, sRetN_at, sRet_at, kRet_some, sExpr_at, kExpr_some, sSet_at, kSet_some, sIf_at, kIf_true, kIf_false, sPar2_k, kPar2_some, sPar3_k, kPar3_some, sAsg_at, kAsg_some, kAsg2_some, mName_at, mTup_2, mTup_3, mCons_at, kmCons_some, mNil_at, sPut_at, kp1_some, kp2_some, kp3_some, kp4_some, kFn_rt, kFn_nx, mkFn_0, mkFn_1, mkFn_2, mkFn_3, mkFn_4, mkFn_5, sWhile_at, List.getElem?_cons_zero, List.getElem?_cons_succ, List.set_cons_zero, List.set_cons_succ, List.replicate_succ, List.replicate_zero, Nat.reduceSub, Bool.not_true, Bool.not_false, ite_true, ite_false, if_true, if_false, reduceCtorEq, fldM_at, sFldM_at, kSF1_some, kSF2_some, kSF3_some, sFldAddM_at, kSA1_some, kSA2_int, eMake_at, kMk1_some, kMk2_some, isCM_at, isCO_non, eGet1_at, kG12_some, kG13_some, eGet2_at, kG22_some, kG23_some, eCallD_at, kCallD_some, eKdx_at, kKdx_some, kIsB_at, kEqE_at, kNeE_at, kInN_at, minF_at, dictF_at, atI0, atI1, eq_str, ixO_tup, lenO_tup, mTup_2, List.cons.injEq, Nat.reduceEqDiff, decide_false, decide_true, and_false, and_true, false_and, true_and, Bool.or_false, Bool.or_true, Bool.true_or, Bool.false_or, Bool.and_true, Bool.and_false, Bool.false_and, Bool.true_and, eReprC_at, kRep2_some, kRep3_some, Int.reduceLE, Int.reduceLT, tl, i1, x0, i2, iss, d1, ln, hq2, hq', decide_true, if_true, if_false, dO, Wo.d]
    · rw [decide_eq_false hf] at i2
      have hd : allF (c :: r) = false := by
        unfold allF
        rw [List.all_cons, decide_eq_false hf, Bool.false_and]
      rw [hd]
      by_cases hq : (c :: r).length ≤ 12
      · have hq' : ¬ (((c :: r).length : Int) > 12) := by omega
        have hq2 : decide ((c :: r).length ≤ 12) = true := decide_eq_true hq
        by_cases hu : c = 95
        · have e1 : decide ([c] = [95]) = true := by rw [d95]; exact decide_eq_true hu
          have e2 : decide (c ∈ LET) = false := decide_eq_false fun z => us_let (hu ▸ z)
          simp only [F_l_run, b_l_run, eVar_at, kVar_some, eC_at, eBin_at, k2_some, k3_some, eUn_at, k1_some, kVal_some, kBl_some, kEq_at, kBlN_some, kNe_at, kIn_at, kNotIn_at, kIx_at, ixO_tup, kLt_int, kLe_int, kGt_int, kGe_int, kLt_str, kLe_str, kGt_str, kGe_str, kIs_non, kIs_bl, kIs_int, kIs_str, kIs_tup, kIs_ref, kIsNot_non, kIsNot_bl, kIsNot_int, kIsNot_str, kIsNot_tup, kIsNot_ref, opAdd_int, opAdd_str, opSub_int, opMul_int, opDiv_int, opMod_int, opPow_int, opAnd_int, opOr_int, opNeg_int, eChain_at, kc1_some, kc2_some, kc3_true, kc3_false, kc4_some, tOf_at, kTru_some, kTru2_some, truD_non, truD_bl, truD_int, truD_tup, tAnd_at, kAnd_true, kAnd_false, tOr_at, kOr_true, kOr_false, tNot_at, kNot_some, tYes_at, eAnd_at, keAnd_some, keAnd2_true, keAnd2_false, eOr_at, keOr_some, keOr2_true, keOr2_false, eNot_at, keNot_some, keNot2_some, eIf_at, keIf_true, keIf_false, aNil_at, aCons_at, ka1_some, ka2_some, eTup_at, kTup_0, kTup_1, kTup_2, kTup_3, kTup_4, kTup_5, kTup_6, eLst_at, kLst_0, kLst_1, kLst_2, kLst_3, kLst_4, eDic0_at, eCall_at, kCall_some, o1_at, isiO_at, kIsi_some, tyD_non, tyD_bl, tyD_int, tyD_str, tyD_tup, eBM_at, kbm1_some, kbm2_some, eSl_at, ks2_some, ks3_some, ks4_some, oNone_at, oSome_at, kSome_int, slO_str, sSeq_at, kSeq_nx, kSeq_rt, kSeq_bk, kSeq_ct, sNext_at, sBreak_at, sCont_at, sRetN_at, sRet_at, kRet_some, sExpr_at, kExpr_some, sSet_at, kSet_some, sIf_at, kIf_true, kIf_false, sPar2_k, kPar2_some, sPar3_k, kPar3_some, sAsg_at, kAsg_some, kAsg2_some, mName_at, mTup_2, mTup_3, mCons_at, kmCons_some, mNil_at, sPut_at, kp1_some, kp2_some, kp3_some, kp4_some, kFn_rt, kFn_nx, mkFn_0, mkFn_1, mkFn_2, mkFn_3, mkFn_4, mkFn_5, sWhile_at, List.getElem?_cons_zero, List.getElem?_cons_succ, List.set_cons_zero, List.set_cons_succ, List.replicate_succ, List.replicate_zero, Nat.reduceSub, Bool.not_true, Bool.not_false, ite_true, ite_false, if_true, if_false, reduceCtorEq, fldM_at, sFldM_at, kSF1_some, kSF2_some, kSF3_some, sFldAddM_at, kSA1_some, kSA2_int, eMake_at, kMk1_some, kMk2_some, isCM_at, isCO_non, eGet1_at, kG12_some, kG13_some, eGet2_at, kG22_some, kG23_some, eCallD_at, kCallD_some, eKdx_at, kKdx_some, kIsB_at, kEqE_at, kNeE_at, kInN_at, minF_at, dictF_at, atI0, atI1, eq_str, ixO_tup, lenO_tup, mTup_2, List.cons.injEq, Nat.reduceEqDiff, decide_false, decide_true, and_false, and_true, false_and, true_and, Bool.or_false, Bool.or_true, Bool.true_or, Bool.false_or, Bool.and_true, Bool.and_false, Bool.false_and, Bool.true_and, eReprC_at, kRep2_some, kRep3_some, Int.reduceLE, Int.reduceLT, tl, i1, x0, i2, e1, e2, hq2, if_true, if_false, dO, Wo.d, -List.cons.injEq]
        · have e1 : decide ([c] = [95]) = false := by rw [d95]; exact decide_eq_false hu
          have e2 : decide (c ∈ LET) = true := decide_eq_true (by
            rcases w_cases c hc with z | z | z
            · exact z
            · exact absurd z hf
            · exact absurd z hu)
          simp only [F_l_run, b_l_run, eVar_at, kVar_some, eC_at, eBin_at, k2_some, k3_some, eUn_at, k1_some, kVal_some, kBl_some, kEq_at, kBlN_some, kNe_at, kIn_at, kNotIn_at, kIx_at, ixO_tup, kLt_int, kLe_int, kGt_int, kGe_int, kLt_str, kLe_str, kGt_str, kGe_str, kIs_non, kIs_bl, kIs_int, kIs_str, kIs_tup, kIs_ref, kIsNot_non, kIsNot_bl, kIsNot_int, kIsNot_str, kIsNot_tup, kIsNot_ref, opAdd_int, opAdd_str, opSub_int, opMul_int, opDiv_int, opMod_int, opPow_int, opAnd_int, opOr_int, opNeg_int, eChain_at, kc1_some, kc2_some, kc3_true, kc3_false, kc4_some, tOf_at, kTru_some, kTru2_some, truD_non, truD_bl, truD_int, truD_tup, tAnd_at, kAnd_true, kAnd_false, tOr_at, kOr_true, kOr_false, tNot_at, kNot_some, tYes_at, eAnd_at, keAnd_some, keAnd2_true, keAnd2_false, eOr_at, keOr_some, keOr2_true, keOr2_false, eNot_at, keNot_some, keNot2_some, eIf_at, keIf_true, keIf_false, aNil_at, aCons_at, ka1_some, ka2_some, eTup_at, kTup_0, kTup_1, kTup_2, kTup_3, kTup_4, kTup_5, kTup_6, eLst_at, kLst_0, kLst_1, kLst_2, kLst_3, kLst_4, eDic0_at, eCall_at, kCall_some, o1_at, isiO_at, kIsi_some, tyD_non, tyD_bl, tyD_int, tyD_str, tyD_tup, eBM_at, kbm1_some, kbm2_some, eSl_at, ks2_some, ks3_some, ks4_some, oNone_at, oSome_at, kSome_int, slO_str, sSeq_at, kSeq_nx, kSeq_rt, kSeq_bk, kSeq_ct, sNext_at, sBreak_at, sCont_at, sRetN_at, sRet_at, kRet_some, sExpr_at, kExpr_some, sSet_at, kSet_some, sIf_at, kIf_true, kIf_false, sPar2_k, kPar2_some, sPar3_k, kPar3_some, sAsg_at, kAsg_some, kAsg2_some, mName_at, mTup_2, mTup_3, mCons_at, kmCons_some, mNil_at, sPut_at, kp1_some, kp2_some, kp3_some, kp4_some, kFn_rt, kFn_nx, mkFn_0, mkFn_1, mkFn_2, mkFn_3, mkFn_4, mkFn_5, sWhile_at, List.getElem?_cons_zero, List.getElem?_cons_succ, List.set_cons_zero, List.set_cons_succ, List.replicate_succ, List.replicate_zero, Nat.reduceSub, Bool.not_true, Bool.not_false, ite_true, ite_false, if_true, if_false, reduceCtorEq, fldM_at, sFldM_at, kSF1_some, kSF2_some, kSF3_some, sFldAddM_at, kSA1_some, kSA2_int, eMake_at, kMk1_some, kMk2_some, isCM_at, isCO_non, eGet1_at, kG12_some, kG13_some, eGet2_at, kG22_some, kG23_some, eCallD_at, kCallD_some, eKdx_at, kKdx_some, kIsB_at, kEqE_at, kNeE_at, kInN_at, minF_at, dictF_at, atI0, atI1, eq_str, ixO_tup, lenO_tup, mTup_2, List.cons.injEq, Nat.reduceEqDiff, decide_false, decide_true, and_false, and_true, false_and, true_and, Bool.or_false, Bool.or_true, Bool.true_or, Bool.false_or, Bool.and_true, Bool.and_false, Bool.false_and, Bool.true_and, eReprC_at, kRep2_some, kRep3_some, Int.reduceLE, Int.reduceLT, tl, i1, x0, i2, e1, e2, ln, hq2, hq', decide_false, if_true, if_false, dO, Wo.d, -List.cons.injEq]
      · have hq' : ((c :: r).length : Int) > 12 := by omega
        have hq2 : decide ((c :: r).length ≤ 12) = false := decide_eq_false hq
        have e1 := d95
        cases hz : decide (c = 95) with
        | true =>
          rw [hz] at e1
          simp only [F_l_run, b_l_run, eVar_at, kVar_some, eC_at, eBin_at, k2_some, k3_some, eUn_at, k1_some, kVal_some, kBl_some, kEq_at, kBlN_some, kNe_at, kIn_at, kNotIn_at, kIx_at, ixO_tup, kLt_int, kLe_int, kGt_int, kGe_int, kLt_str, kLe_str, kGt_str, kGe_str, kIs_non, kIs_bl, kIs_int, kIs_str, kIs_tup, kIs_ref, kIsNot_non, kIsNot_bl, kIsNot_int, kIsNot_str, kIsNot_tup, kIsNot_ref, opAdd_int, opAdd_str, opSub_int, opMul_int, opDiv_int, opMod_int, opPow_int, opAnd_int, opOr_int, opNeg_int, eChain_at, kc1_some, kc2_some, kc3_true, kc3_false, kc4_some, tOf_at, kTru_some, kTru2_some, truD_non, truD_bl, truD_int, truD_tup, tAnd_at, kAnd_true, kAnd_false, tOr_at, kOr_true, kOr_false, tNot_at, kNot_some, tYes_at, eAnd_at, keAnd_some, keAnd2_true, keAnd2_false, eOr_at, keOr_some, keOr2_true, keOr2_false, eNot_at, keNot_some, keNot2_some, eIf_at, keIf_true, keIf_false, aNil_at, aCons_at, ka1_some, ka2_some, eTup_at, kTup_0, kTup_1, kTup_2, kTup_3, kTup_4, kTup_5, kTup_6, eLst_at, kLst_0, kLst_1, kLst_2, kLst_3, kLst_4, eDic0_at, eCall_at, kCall_some, o1_at, isiO_at, kIsi_some, tyD_non, tyD_bl, tyD_int, tyD_str, tyD_tup, eBM_at, kbm1_some, kbm2_some, eSl_at, ks2_some, ks3_some, ks4_some, oNone_at, oSome_at, kSome_int, slO_str, sSeq_at, kSeq_nx, kSeq_rt, kSeq_bk, kSeq_ct, sNext_at, sBreak_at, sCont_at, sRetN_at, sRet_at, kRet_some, sExpr_at, kExpr_some, sSet_at, kSet_some, sIf_at, kIf_true, kIf_false, sPar2_k, kPar2_some, sPar3_k, kPar3_some, sAsg_at, kAsg_some, kAsg2_some, mName_at, mTup_2, mTup_3, mCons_at, kmCons_some, mNil_at, sPut_at, kp1_some, kp2_some, kp3_some, kp4_some, kFn_rt, kFn_nx, mkFn_0, mkFn_1, mkFn_2, mkFn_3, mkFn_4, mkFn_5, sWhile_at, List.getElem?_cons_zero, List.getElem?_cons_succ, List.set_cons_zero, List.set_cons_succ, List.replicate_succ, List.replicate_zero, Nat.reduceSub, Bool.not_true, Bool.not_false, ite_true, ite_false, if_true, if_false, reduceCtorEq, fldM_at, sFldM_at, kSF1_some, kSF2_some, kSF3_some, sFldAddM_at, kSA1_some, kSA2_int, eMake_at, kMk1_some, kMk2_some, isCM_at, isCO_non, eGet1_at, kG12_some, kG13_some, eGet2_at, kG22_some, kG23_some, eCallD_at, kCallD_some, eKdx_at, kKdx_some, kIsB_at, kEqE_at, kNeE_at, kInN_at, minF_at, dictF_at, atI0, atI1, eq_str, ixO_tup, lenO_tup, mTup_2, List.cons.injEq, Nat.reduceEqDiff, decide_false, decide_true, and_false, and_true, false_and, true_and, Bool.or_false, Bool.or_true, Bool.true_or, Bool.false_or, Bool.and_true, Bool.and_false, Bool.false_and, Bool.true_and, eReprC_at, kRep2_some, kRep3_some, Int.reduceLE, Int.reduceLT, tl, i1, x0, i2, e1, hq2, if_true, if_false, dO, Wo.d, -List.cons.injEq]
        | false =>
          rw [hz] at e1
          simp only [F_l_run, b_l_run, eVar_at, kVar_some, eC_at, eBin_at, k2_some, k3_some, eUn_at, k1_some, kVal_some, kBl_some, kEq_at, kBlN_some, kNe_at, kIn_at, kNotIn_at, kIx_at, ixO_tup, kLt_int, kLe_int, kGt_int, kGe_int, kLt_str, kLe_str, kGt_str, kGe_str, kIs_non, kIs_bl, kIs_int, kIs_str, kIs_tup, kIs_ref, kIsNot_non, kIsNot_bl, kIsNot_int, kIsNot_str, kIsNot_tup, kIsNot_ref, opAdd_int, opAdd_str, opSub_int, opMul_int, opDiv_int, opMod_int, opPow_int, opAnd_int, opOr_int, opNeg_int, eChain_at, kc1_some, kc2_some, kc3_true, kc3_false, kc4_some, tOf_at, kTru_some, kTru2_some, truD_non, truD_bl, truD_int, truD_tup, tAnd_at, kAnd_true, kAnd_false, tOr_at, kOr_true, kOr_false, tNot_at, kNot_some, tYes_at, eAnd_at, keAnd_some, keAnd2_true, keAnd2_false, eOr_at, keOr_some, keOr2_true, keOr2_false, eNot_at, keNot_some, keNot2_some, eIf_at, keIf_true, keIf_false, aNil_at, aCons_at, ka1_some, ka2_some, eTup_at, kTup_0, kTup_1, kTup_2, kTup_3, kTup_4, kTup_5, kTup_6, eLst_at, kLst_0, kLst_1, kLst_2, kLst_3, kLst_4, eDic0_at, eCall_at, kCall_some, o1_at, isiO_at, kIsi_some, tyD_non, tyD_bl, tyD_int, tyD_str, tyD_tup, eBM_at, kbm1_some, kbm2_some, eSl_at, ks2_some, ks3_some, ks4_some, oNone_at, oSome_at, kSome_int, slO_str, sSeq_at, kSeq_nx, kSeq_rt, kSeq_bk, kSeq_ct, sNext_at, sBreak_at, sCont_at, sRetN_at, sRet_at, kRet_some, sExpr_at, kExpr_some, sSet_at, kSet_some, sIf_at, kIf_true, kIf_false, sPar2_k, kPar2_some, sPar3_k, kPar3_some, sAsg_at, kAsg_some, kAsg2_some, mName_at, mTup_2, mTup_3, mCons_at, kmCons_some, mNil_at, sPut_at, kp1_some, kp2_some, kp3_some, kp4_some, kFn_rt, kFn_nx, mkFn_0, mkFn_1, mkFn_2, mkFn_3, mkFn_4, mkFn_5, sWhile_at, List.getElem?_cons_zero, List.getElem?_cons_succ, List.set_cons_zero, List.set_cons_succ, List.replicate_succ, List.replicate_zero, Nat.reduceSub, Bool.not_true, Bool.not_false, ite_true, ite_false, if_true, if_false, reduceCtorEq, fldM_at, sFldM_at, kSF1_some, kSF2_some, kSF3_some, sFldAddM_at, kSA1_some, kSA2_int, eMake_at, kMk1_some, kMk2_some, isCM_at, isCO_non, eGet1_at, kG12_some, kG13_some, eGet2_at, kG22_some, kG23_some, eCallD_at, kCallD_some, eKdx_at, kKdx_some, kIsB_at, kEqE_at, kNeE_at, kInN_at, minF_at, dictF_at, atI0, atI1, eq_str, ixO_tup, lenO_tup, mTup_2, List.cons.injEq, Nat.reduceEqDiff, decide_false, decide_true, and_false, and_true, false_and, true_and, Bool.or_false, Bool.or_true, Bool.true_or, Bool.false_or, Bool.and_true, Bool.and_false, Bool.false_and, Bool.true_and, eReprC_at, kRep2_some, kRep3_some, Int.reduceLE, Int.reduceLT, tl, i1, x0, i2, e1, ln, hq2, hq', decide_true, if_true, if_false, dO, Wo.d, -List.cons.injEq]
end Math

set_option maxRecDepth 100000
set_option maxHeartbeats 4000000
namespace Math
open MP Text PySem Builtin.Str
theorem sub_at (pre r : List Nat) (c q : Nat) : subAt (mkS (pre ++ c :: r)) (mkS [q]) pre.length = decide (c = q) := by
  unfold subAt
  rw [mkS_len]
  have e : (mkS (pre ++ c :: r)).cps.extract pre.length (pre.length + [q].length) = #[c] := by
    show ((pre ++ c :: r).toArray.extract pre.length (pre.length + 1)) = #[c]
    simp
  rw [e]
  by_cases h : c = q
  · subst h
    simp [mkS]
  · rw [decide_eq_false h]
    refine beq_eq_false_iff_ne.mpr fun z => h ?_
    have := congrArg Array.toList z
    simpa [mkS] using this
theorem occ_stay (s sub : Str) (hi x : Nat) : ∀ (l : List Nat) (k : Nat), (forIn l (#[x], k) (StrLaws.occBody s sub hi 1)).run.fst = #[x]
  | [], k => rfl
  | a :: l, k => by
    have c : ¬ ((((#[x] : Array Nat).size < 1 ∧ k ≤ a) ∧ a + sub.length ≤ hi) ∧ subAt s sub a = true) := fun z => by
      have := z.1.1.1
      simp at this
    rw [List.forIn_cons]
    simp only [StrLaws.occBody, if_neg c]
    exact occ_stay s sub hi x l k
theorem occ_loop (q : Nat) : ∀ (suf pre : List Nat) (k : Nat), k ≤ pre.length → (forIn (List.range' pre.length (suf.length + 1)) ((#[] : Array Nat), k) (StrLaws.occBody (mkS (pre ++ suf)) (mkS [q]) (pre ++ suf).length 1)).run.fst.toList = if q ∈ suf then [pre.length + (suf.takeWhile (· != q)).length] else []
  | [], pre, k, hk => by
    have c : ¬ ((((#[] : Array Nat).size < 1 ∧ k ≤ pre.length) ∧ pre.length + (mkS [q]).length ≤ (pre ++ ([] : List Nat)).length) ∧ subAt (mkS (pre ++ [])) (mkS [q]) pre.length = true) := fun z => by
      have := z.1.2
      rw [mkS_len] at this
      simp at this
      omega
    show (forIn [pre.length] ((#[] : Array Nat), k) (StrLaws.occBody (mkS (pre ++ [])) (mkS [q]) (pre ++ ([] : List Nat)).length 1)).run.fst.toList = _
    rw [List.forIn_cons]
    simp only [StrLaws.occBody, if_neg c]
    rfl
  | c :: r, pre, k, hk => by
    have sa := sub_at pre r c q
    rw [List.length_cons, List.range'_succ, List.forIn_cons]
    by_cases hc : c = q
    · have cond : ((((#[] : Array Nat).size < 1 ∧ k ≤ pre.length) ∧ pre.length + (mkS [q]).length ≤ (pre ++ c :: r).length) ∧ subAt (mkS (pre ++ c :: r)) (mkS [q]) pre.length = true) := by
        refine ⟨⟨⟨by simp, hk⟩, ?_⟩, ?_⟩
        · rw [mkS_len, List.length_append]
          show pre.length + 1 ≤ pre.length + (r.length + 1)
          omega
        · rw [sa]
          exact decide_eq_true hc
      simp only [StrLaws.occBody, if_pos cond]
      have st := occ_stay (mkS (pre ++ c :: r)) (mkS [q]) (pre ++ c :: r).length pre.length (List.range' (pre.length + 1) (r.length + 1)) (pre.length + (mkS [q]).length)
      have st2 : (forIn (List.range' (pre.length + 1) (r.length + 1)) ((#[] : Array Nat).push pre.length, pre.length + (mkS [q]).length) (StrLaws.occBody (mkS (pre ++ c :: r)) (mkS [q]) (pre ++ c :: r).length 1)).run.fst = #[pre.length] := st
      have hq : q ∈ c :: r := by rw [hc]; exact .head _
      rw [if_pos hq, List.takeWhile_cons_of_neg (by simp [hc])]
      exact congrArg Array.toList st2
    · have cond : ¬ ((((#[] : Array Nat).size < 1 ∧ k ≤ pre.length) ∧ pre.length + (mkS [q]).length ≤ (pre ++ c :: r).length) ∧ subAt (mkS (pre ++ c :: r)) (mkS [q]) pre.length = true) := fun z => by
        have z2 := z.2
        rw [sa] at z2
        exact hc (of_decide_eq_true z2)
      simp only [StrLaws.occBody, if_neg cond]
      have ih := occ_loop q r (pre ++ [c]) k (by rw [List.length_append]; omega)
      rw [List.append_assoc, List.length_append, List.length_singleton] at ih
      have ih2 : (forIn (List.range' (pre.length + 1) (r.length + 1)) ((#[] : Array Nat), k) (StrLaws.occBody (mkS (pre ++ c :: r)) (mkS [q]) (pre ++ c :: r).length 1)).run.fst.toList = if q ∈ r then [pre.length + 1 + (r.takeWhile (· != q)).length] else [] := ih
      have e1 : (q ∈ c :: r) ↔ q ∈ r := by
        rw [List.mem_cons]
        exact ⟨fun z => z.resolve_left fun y => hc y.symm, .inr⟩
      rw [List.takeWhile_cons_of_pos (by simp [hc]), List.length_cons]
      by_cases hq : q ∈ r
      · rw [if_pos hq] at ih2
        rw [if_pos (e1.mpr hq), show pre.length + ((r.takeWhile (· != q)).length + 1) = pre.length + 1 + (r.takeWhile (· != q)).length by omega]
        exact ih2
      · rw [if_neg hq] at ih2
        rw [if_neg (fun z => hq (e1.mp z))]
        exact ih2
theorem occ_is (pre suf : List Nat) (q : Nat) : occurrences (mkS (pre ++ suf)) (mkS [q]) pre.length (pre ++ suf).length 1 = if q ∈ suf then [pre.length + (suf.takeWhile (· != q)).length] else [] := by
  rw [StrLaws.occ_eq, show (pre ++ suf).length + 1 - pre.length = suf.length + 1 by rw [List.length_append]; omega]
  exact occ_loop q suf pre pre.length (Nat.le_refl _)
theorem find_is (pre suf : List Nat) (q : Nat) (st : Sto) : find3M (.str (pre ++ suf)) [.str [q], .int (pre.length : Nat)] st = some (.int (if q ∈ suf then ((pre.length + (suf.takeWhile (· != q)).length : Nat) : Int) else -1), st) := by
  show some (D.int (Txt.find3 (mkS (pre ++ suf)) (mkS [q]) (pre.length : Nat)), st) = _
  have f : fromIndex (pre ++ suf).length (pre.length : Nat) = pre.length := by
    unfold fromIndex
    omega
  unfold Txt.find3
  rw [mkS_len, f, occ_is]
  by_cases h : q ∈ suf
  · rw [if_pos h, if_pos h]
  · rw [if_neg h, if_neg h]
theorem okT_of {l : List Nat} (h : okS l = true) : okT (mkS l) = some (.str l) := by
  unfold okT
  rw [mkS_tl, if_pos h]
theorem strSub_is (l : List Nat) (a b : Nat) : strSub (mkS l) a b = mkS ((l.drop a).take (b - a)) := by
  unfold strSub mkS
  congr 1
  show l.toArray.extract a b = _
  simp [List.extract_eq_drop_take]
theorem tw_app {p : Nat → Bool} : ∀ (l : List Nat), l.take (l.takeWhile p).length = l.takeWhile p
  | [] => rfl
  | c :: r => by
    by_cases h : p c = true
    · rw [List.takeWhile_cons_of_pos h, List.length_cons, List.take_succ_cons, tw_app r]
    · rw [List.takeWhile_cons_of_neg h]
      rfl
theorem tw_all {p : Nat → Bool} : ∀ (l : List Nat), (∀ c ∈ l, p c = true) → l.takeWhile p = l
  | [], _ => rfl
  | c :: r, h => by rw [List.takeWhile_cons_of_pos (h c (.head _)), tw_all r fun x hx => h x (.tail _ hx)]
theorem part_is (l : List Nat) (q : Nat) (hl : l.length ≤ 100000) (hk : okS (q :: l) = true) (st : Sto) : ∃ z, partM (.str l) [.str [q]] st = some (.tup [.str (l.takeWhile (· != q)), .str (if q ∈ l then [q] else []), .str z], st) := by
  have okl : okS l = true := okS_sub hk fun c hc => .tail _ hc
  have c : [q] ≠ [] ∧ l.length ≤ LIM := ⟨by simp, lim1 hl⟩
  have oc := occ_is [] l q
  have oc' : occurrences (mkS l) (mkS [q]) 0 (mkS l).length 1 = if q ∈ l then [(l.takeWhile (· != q)).length] else [] := by
    rw [mkS_len]
    have := oc
    simp only [List.nil_append, List.length_nil, Nat.zero_add] at this
    exact this
  have pm : partM (.str l) [.str [q]] st = (okT (Txt.partition (mkS l) (mkS [q])).1).bind fun a => (okT (Txt.partition (mkS l) (mkS [q])).2.1).bind fun b => (okT (Txt.partition (mkS l) (mkS [q])).2.2).map fun c => (.tup [a, b, c], st) := by
    show (if [q] ≠ [] ∧ l.length ≤ LIM then _ else none) = _
    rw [if_pos c]
  rw [pm]
  by_cases h : q ∈ l
  · rw [if_pos h] at oc'
    have e : Txt.partition (mkS l) (mkS [q]) = (mkS (l.takeWhile (· != q)), mkS [q], mkS ((l.drop ((l.takeWhile (· != q)).length + 1)).take (l.length - ((l.takeWhile (· != q)).length + 1)))) := by
      unfold Txt.partition
      rw [oc']
      simp only
      rw [strSub_is, strSub_is, List.drop_zero, Nat.sub_zero, mkS_len, mkS_len, tw_app]
      rfl
    rw [e, if_pos h]
    refine ⟨(l.drop ((l.takeWhile (· != q)).length + 1)).take (l.length - ((l.takeWhile (· != q)).length + 1)), ?_⟩
    simp only
    rw [okT_of (okS_sub okl fun c hc => (List.takeWhile_prefix _).subset hc), Option.bind_some, okT_of (okS_sub hk fun c hc => by rw [List.mem_singleton.mp hc]; exact .head _), Option.bind_some, okT_of (okS_sub okl fun c hc => List.mem_of_mem_drop (List.mem_of_mem_take hc)), Option.map_some]
  · rw [if_neg h] at oc'
    have e : Txt.partition (mkS l) (mkS [q]) = (mkS l, mkS [], mkS []) := by
      unfold Txt.partition
      rw [oc']
      rfl
    have tw : l.takeWhile (· != q) = l := tw_all l fun c hc => by
      have : c ≠ q := fun z => h (z ▸ hc)
      simpa using this
    rw [e, if_neg h, tw]
    refine ⟨[], ?_⟩
    simp only
    rw [okT_of okl, Option.bind_some, okT_of (by rfl), Option.bind_some, Option.map_some]
end Math

set_option maxRecDepth 100000
set_option maxHeartbeats 4000000
namespace Math
open MP Text PySem
abbrev LONG : List (List Nat) := [[47, 47], [60, 61], [62, 61], [61, 61], [33, 61], [43, 61], [45, 61], [42, 61]]
abbrev SHORT : List Nat := [43, 45, 42, 38, 124, 60, 62, 61, 40, 41, 44, 46, 58]
def untQ (r : List Nat) : List Nat := r.takeWhile (· != 34)
def textO (r : List Nat) : Option (Wo × Nat) := if (decide (34 ∈ r) && decide ((untQ r).length ≤ 40)) = true then some (.tx [116, 101, 120, 116] (untQ r), (untQ r).length + 2) else none
def markO (c : Nat) (r : List Nat) : Option (Wo × Nat) := if decide ((c :: r).take 2 ∈ LONG) = true then some (.tx [109, 97, 114, 107] ((c :: r).take 2), 2) else if decide (c ∈ SHORT) = true then some (.tx [109, 97, 114, 107] [c], 1) else none
def word1 (c : Nat) (r : List Nat) : Option (Wo × Nat) :=
  if isW c = true then (runO c (r.takeWhile isW)).map fun w => (w, (r.takeWhile isW).length + 1)
  else if decide (c = 34) = true then textO r else markO c r
theorem long_two : ∀ m ∈ LONG, m.length = 2 := by decide
theorem cut_two (pre suf : List Nat) (n : Nat) : cutG (pre ++ suf) (some (pre.length : Nat)) (some ((pre.length + n : Nat) : Int)) = suf.take n := by
  unfold cutG
  rw [HT.sIx_nat, HT.sIx_nat]
  have h1 : min pre.length (pre ++ suf).length = pre.length := by
    rw [List.length_append]
    omega
  rw [h1, List.drop_left]
  by_cases h : n ≤ suf.length
  · rw [show min (pre.length + n) (pre ++ suf).length - pre.length = n by rw [List.length_append]; omega]
  · rw [show min (pre.length + n) (pre ++ suf).length - pre.length = suf.length by rw [List.length_append]; omega, List.take_length, List.take_of_length_le (by omega)]
theorem text_at (pre r : List Nat) (hl : (pre ++ 34 :: r).length ≤ 50000) (st : Sto) : F_text_at [.str (pre ++ 34 :: r), .int (pre.length : Nat)] st = some (dO ((textO r).map (·.1)), st) := by
  have e : pre ++ 34 :: r = (pre ++ [34]) ++ r := by simp
  have el : ((pre ++ [34]).length : Int) = (pre.length : Int) + 1 := by simp
  have f := find_is (pre ++ [34]) r 34 st
  rw [← e, el] at f
  have iss : isS st (.str (pre ++ 34 :: r)) = true := rfl
  unfold textO
  by_cases h : 34 ∈ r
  · rw [if_pos h] at f
    have hw : r.takeWhile (· != 34) = untQ r := rfl
    rw [hw] at f
    have el2 : (((pre ++ [34]).length + (untQ r).length : Nat) : Int) = (pre.length : Int) + 1 + ((untQ r).length : Int) := by
      rw [List.length_append, List.length_singleton]
      omega
    rw [el2] at f
    have c1 : ¬ ((pre.length : Int) + 1 + ((untQ r).length : Int) < 0) := by omega
    have c2 : ((pre.length : Int) + 1 + ((untQ r).length : Int) - (pre.length : Int) - 1) = ((untQ r).length : Int) := by omega
    have hs : cutG (pre ++ 34 :: r) (some ((pre.length : Int) + 1)) (some ((pre.length : Int) + 1 + ((untQ r).length : Int))) = untQ r := by
      have := cut_pre (pre ++ [34]) (untQ r) (r.dropWhile (· != 34)) ((pre.length : Int) + 1) ((pre.length : Int) + 1 + ((untQ r).length : Int)) el.symm (by
        rw [List.length_append, List.length_append, List.length_singleton]
        omega)
      have e3 : untQ r ++ r.dropWhile (· != 34) = r := List.takeWhile_append_dropWhile
      rw [e3, ← e] at this
      exact this
    have lm : (pre ++ 34 :: r).length ≤ LIM := lim1 (by omega)
    have d1 : decide (34 ∈ r) = true := decide_eq_true h
    by_cases hq : (untQ r).length ≤ 40
    · have c3 : ¬ (((untQ r).length : Int) > 40) := by omega
      have d2 : decide ((untQ r).length ≤ 40) = true := decide_eq_true hq
      simp only [F_text_at, b_text_at, eVar_at, kVar_some, eC_at, eBin_at, k2_some, k3_some, eUn_at, k1_some, kVal_some, kBl_some, kEq_at, kBlN_some, kNe_at, kIn_at, kNotIn_at, kIx_at, ixO_tup, kLt_int, kLe_int, kGt_int, kGe_int, kLt_str, kLe_str, kGt_str, kGe_str, kIs_non, kIs_bl, kIs_int, kIs_str, kIs_tup, kIs_ref, kIsNot_non, kIsNot_bl, kIsNot_int, kIsNot_str, kIsNot_tup, kIsNot_ref, opAdd_int, opAdd_str, opSub_int, opMul_int, opDiv_int, opMod_int, opPow_int, opAnd_int, opOr_int, opNeg_int, eChain_at, kc1_some, kc2_some, kc3_true, kc3_false, kc4_some, tOf_at, kTru_some, kTru2_some, truD_non, truD_bl, truD_int, truD_tup, tAnd_at, kAnd_true, kAnd_false, tOr_at, kOr_true, kOr_false, tNot_at, kNot_some, tYes_at, eAnd_at, keAnd_some, keAnd2_true, keAnd2_false, eOr_at, keOr_some, keOr2_true, keOr2_false, eNot_at, keNot_some, keNot2_some, eIf_at, keIf_true, keIf_false, aNil_at, aCons_at, ka1_some, ka2_some, eTup_at, kTup_0, kTup_1, kTup_2, kTup_3, kTup_4, kTup_5, kTup_6, eLst_at, kLst_0, kLst_1, kLst_2, kLst_3, kLst_4, eDic0_at, eCall_at, kCall_some, o1_at, isiO_at, kIsi_some, tyD_non, tyD_bl, tyD_int, tyD_str, tyD_tup, eBM_at, kbm1_some, kbm2_some, eSl_at, ks2_some, ks3_some, ks4_some, oNone_at, oSome_at, kSome_int, slO_str, sSeq_at, kSeq_nx, kSeq_rt, kSeq_bk, kSeq_ct, sNext_at, sBreak_at, sCont_at, sRetN_at, sRet_at, kRet_some, sExpr_at, kExpr_some, sSet_at, kSet_some, sIf_at, kIf_true, kIf_false, sPar2_k, kPar2_some, sPar3_k, kPar3_some, sAsg_at, kAsg_some, kAsg2_some, mName_at, mTup_2, mTup_3, mCons_at, kmCons_some, mNil_at, sPut_at, kp1_some, kp2_some, kp3_some, kp4_some, kFn_rt, kFn_nx, mkFn_0, mkFn_1, mkFn_2, mkFn_3, mkFn_4, mkFn_5, sWhile_at, List.getElem?_cons_zero, List.getElem?_cons_succ, List.set_cons_zero, List.set_cons_succ, List.replicate_succ, List.replicate_zero, Nat.reduceSub, Bool.not_true, Bool.not_false, ite_true, ite_false, if_true, if_false, reduceCtorEq, fldM_at, sFldM_at, kSF1_some, kSF2_some, kSF3_some, sFldAddM_at, kSA1_some, kSA2_int, eMake_at, kMk1_some, kMk2_some, isCM_at, isCO_non, eGet1_at, kG12_some, kG13_some, eGet2_at, kG22_some, kG23_some, eCallD_at, kCallD_some, eKdx_at, kKdx_some, kIsB_at, kEqE_at, kNeE_at, kInN_at, minF_at, dictF_at, atI0, atI1, eq_str, ixO_tup, lenO_tup, mTup_2, List.cons.injEq, Nat.reduceEqDiff, decide_false, decide_true, and_false, and_true, false_and, true_and, Bool.or_false, Bool.or_true, Bool.true_or, Bool.false_or, Bool.and_true, Bool.and_false, Bool.false_and, Bool.true_and, eReprC_at, kRep2_some, kRep3_some, Int.reduceLE, Int.reduceLT, iss, f, c1, c2, c3, decide_false, slO_str, lm, hs, d1, d2, if_true, Option.map_some, dO, Wo.d]
    · have c3 : ((untQ r).length : Int) > 40 := by omega
      have d2 : decide ((untQ r).length ≤ 40) = false := decide_eq_false hq
      simp only [F_text_at, b_text_at, eVar_at, kVar_some, eC_at, eBin_at, k2_some, k3_some, eUn_at, k1_some, kVal_some, kBl_some, kEq_at, kBlN_some, kNe_at, kIn_at, kNotIn_at, kIx_at, ixO_tup, kLt_int, kLe_int, kGt_int, kGe_int, kLt_str, kLe_str, kGt_str, kGe_str, kIs_non, kIs_bl, kIs_int, kIs_str, kIs_tup, kIs_ref, kIsNot_non, kIsNot_bl, kIsNot_int, kIsNot_str, kIsNot_tup, kIsNot_ref, opAdd_int, opAdd_str, opSub_int, opMul_int, opDiv_int, opMod_int, opPow_int, opAnd_int, opOr_int, opNeg_int, eChain_at, kc1_some, kc2_some, kc3_true, kc3_false, kc4_some, tOf_at, kTru_some, kTru2_some, truD_non, truD_bl, truD_int, truD_tup, tAnd_at, kAnd_true, kAnd_false, tOr_at, kOr_true, kOr_false, tNot_at, kNot_some, tYes_at, eAnd_at, keAnd_some, keAnd2_true, keAnd2_false, eOr_at, keOr_some, keOr2_true, keOr2_false, eNot_at, keNot_some, keNot2_some, eIf_at, keIf_true, keIf_false, aNil_at, aCons_at, ka1_some, ka2_some, eTup_at, kTup_0, kTup_1, kTup_2, kTup_3, kTup_4, kTup_5, kTup_6, eLst_at, kLst_0, kLst_1, kLst_2, kLst_3, kLst_4, eDic0_at, eCall_at, kCall_some, o1_at, isiO_at, kIsi_some, tyD_non, tyD_bl, tyD_int, tyD_str, tyD_tup, eBM_at, kbm1_some, kbm2_some, eSl_at, ks2_some, ks3_some, ks4_some, oNone_at, oSome_at, kSome_int, slO_str, sSeq_at, kSeq_nx, kSeq_rt, kSeq_bk, kSeq_ct, sNext_at, sBreak_at, sCont_at, sRetN_at, sRet_at, kRet_some, sExpr_at, kExpr_some, sSet_at, kSet_some, sIf_at, kIf_true, kIf_false, sPar2_k, kPar2_some, sPar3_k, kPar3_some, sAsg_at, kAsg_some, kAsg2_some, mName_at, mTup_2, mTup_3, mCons_at, kmCons_some, mNil_at, sPut_at, kp1_some, kp2_some, kp3_some, kp4_some, kFn_rt, kFn_nx, mkFn_0, mkFn_1, mkFn_2, mkFn_3, mkFn_4, mkFn_5, sWhile_at, List.getElem?_cons_zero, List.getElem?_cons_succ, List.set_cons_zero, List.set_cons_succ, List.replicate_succ, List.replicate_zero, Nat.reduceSub, Bool.not_true, Bool.not_false, ite_true, ite_false, if_true, if_false, reduceCtorEq, fldM_at, sFldM_at, kSF1_some, kSF2_some, kSF3_some, sFldAddM_at, kSA1_some, kSA2_int, eMake_at, kMk1_some, kMk2_some, isCM_at, isCO_non, eGet1_at, kG12_some, kG13_some, eGet2_at, kG22_some, kG23_some, eCallD_at, kCallD_some, eKdx_at, kKdx_some, kIsB_at, kEqE_at, kNeE_at, kInN_at, minF_at, dictF_at, atI0, atI1, eq_str, ixO_tup, lenO_tup, mTup_2, List.cons.injEq, Nat.reduceEqDiff, decide_false, decide_true, and_false, and_true, false_and, true_and, Bool.or_false, Bool.or_true, Bool.true_or, Bool.false_or, Bool.and_true, Bool.and_false, Bool.false_and, Bool.true_and, eReprC_at, kRep2_some, kRep3_some, Int.reduceLE, Int.reduceLT, iss, f, c1, c2, c3, decide_false, decide_true, d1, d2, if_false, Option.map_none, dO]
  · rw [if_neg h] at f
    have d1 : decide (34 ∈ r) = false := decide_eq_false h
    have c1 : ((-1 : Int) < 0) := by decide
    simp only [F_text_at, b_text_at, eVar_at, kVar_some, eC_at, eBin_at, k2_some, k3_some, eUn_at, k1_some, kVal_some, kBl_some, kEq_at, kBlN_some, kNe_at, kIn_at, kNotIn_at, kIx_at, ixO_tup, kLt_int, kLe_int, kGt_int, kGe_int, kLt_str, kLe_str, kGt_str, kGe_str, kIs_non, kIs_bl, kIs_int, kIs_str, kIs_tup, kIs_ref, kIsNot_non, kIsNot_bl, kIsNot_int, kIsNot_str, kIsNot_tup, kIsNot_ref, opAdd_int, opAdd_str, opSub_int, opMul_int, opDiv_int, opMod_int, opPow_int, opAnd_int, opOr_int, opNeg_int, eChain_at, kc1_some, kc2_some, kc3_true, kc3_false, kc4_some, tOf_at, kTru_some, kTru2_some, truD_non, truD_bl, truD_int, truD_tup, tAnd_at, kAnd_true, kAnd_false, tOr_at, kOr_true, kOr_false, tNot_at, kNot_some, tYes_at, eAnd_at, keAnd_some, keAnd2_true, keAnd2_false, eOr_at, keOr_some, keOr2_true, keOr2_false, eNot_at, keNot_some, keNot2_some, eIf_at, keIf_true, keIf_false, aNil_at, aCons_at, ka1_some, ka2_some, eTup_at, kTup_0, kTup_1, kTup_2, kTup_3, kTup_4, kTup_5, kTup_6, eLst_at, kLst_0, kLst_1, kLst_2, kLst_3, kLst_4, eDic0_at, eCall_at, kCall_some, o1_at, isiO_at, kIsi_some, tyD_non, tyD_bl, tyD_int, tyD_str, tyD_tup, eBM_at, kbm1_some, kbm2_some, eSl_at, ks2_some, ks3_some, ks4_some, oNone_at, oSome_at, kSome_int, slO_str, sSeq_at, kSeq_nx, kSeq_rt, kSeq_bk, kSeq_ct, sNext_at, sBreak_at, sCont_at, sRetN_at, sRet_at, kRet_some, sExpr_at, kExpr_some, sSet_at, kSet_some, sIf_at, kIf_true, kIf_false, sPar2_k, kPar2_some, sPar3_k, kPar3_some, sAsg_at, kAsg_some, kAsg2_some, mName_at, mTup_2, mTup_3, mCons_at, kmCons_some, mNil_at, sPut_at, kp1_some, kp2_some, kp3_some, kp4_some, kFn_rt, kFn_nx, mkFn_0, mkFn_1, mkFn_2, mkFn_3, mkFn_4, mkFn_5, sWhile_at, List.getElem?_cons_zero, List.getElem?_cons_succ, List.set_cons_zero, List.set_cons_succ, List.replicate_succ, List.replicate_zero, Nat.reduceSub, Bool.not_true, Bool.not_false, ite_true, ite_false, if_true, if_false, reduceCtorEq, fldM_at, sFldM_at, kSF1_some, kSF2_some, kSF3_some, sFldAddM_at, kSA1_some, kSA2_int, eMake_at, kMk1_some, kMk2_some, isCM_at, isCO_non, eGet1_at, kG12_some, kG13_some, eGet2_at, kG22_some, kG23_some, eCallD_at, kCallD_some, eKdx_at, kKdx_some, kIsB_at, kEqE_at, kNeE_at, kInN_at, minF_at, dictF_at, atI0, atI1, eq_str, ixO_tup, lenO_tup, mTup_2, List.cons.injEq, Nat.reduceEqDiff, decide_false, decide_true, and_false, and_true, false_and, true_and, Bool.or_false, Bool.or_true, Bool.true_or, Bool.false_or, Bool.and_true, Bool.and_false, Bool.false_and, Bool.true_and, eReprC_at, kRep2_some, kRep3_some, Int.reduceLE, Int.reduceLT, iss, f, c1, decide_true, d1, if_false, Option.map_none, dO]
theorem mark_at (pre r : List Nat) (c : Nat) (hl : (pre ++ c :: r).length ≤ 50000) (st : Sto) : F_mark_at [.str (pre ++ c :: r), .int (pre.length : Nat)] st = some (dO ((markO c r).map (·.1)), st) := by
  have ct := cut_two pre (c :: r) 2
  have e2 : ((pre.length + 2 : Nat) : Int) = (pre.length : Int) + 2 := by omega
  rw [e2] at ct
  have lm : (pre ++ c :: r).length ≤ LIM := lim1 (by omega)
  have i1 : inO st (.str ((c :: r).take 2)) (.tup [.str [47, 47], .str [60, 61], .str [62, 61], .str [61, 61], .str [33, 61], .str [43, 61], .str [45, 61], .str [42, 61]]) = some (decide ((c :: r).take 2 ∈ LONG)) := in_tup st _ LONG
  have x0 := ix_pre pre c r (by omega) st
  have i2 := in_one st c SHORT
  unfold markO
  cases h1 : decide ((c :: r).take 2 ∈ LONG) with
  | true =>
    rw [h1] at i1
    simp only [F_mark_at, b_mark_at, eVar_at, kVar_some, eC_at, eBin_at, k2_some, k3_some, eUn_at, k1_some, kVal_some, kBl_some, kEq_at, kBlN_some, kNe_at, kIn_at, kNotIn_at, kIx_at, ixO_tup, kLt_int, kLe_int, kGt_int, kGe_int, kLt_str, kLe_str, kGt_str, kGe_str, kIs_non, kIs_bl, kIs_int, kIs_str, kIs_tup, kIs_ref, kIsNot_non, kIsNot_bl, kIsNot_int, kIsNot_str, kIsNot_tup, kIsNot_ref, opAdd_int, opAdd_str, opSub_int, opMul_int, opDiv_int, opMod_int, opPow_int, opAnd_int, opOr_int, opNeg_int, eChain_at, kc1_some, kc2_some, kc3_true, kc3_false, kc4_some, tOf_at, kTru_some, kTru2_some, truD_non, truD_bl, truD_int, truD_tup, tAnd_at, kAnd_true, kAnd_false, tOr_at, kOr_true, kOr_false, tNot_at, kNot_some, tYes_at, eAnd_at, keAnd_some, keAnd2_true, keAnd2_false, eOr_at, keOr_some, keOr2_true, keOr2_false, eNot_at, keNot_some, keNot2_some, eIf_at, keIf_true, keIf_false, aNil_at, aCons_at, ka1_some, ka2_some, eTup_at, kTup_0, kTup_1, kTup_2, kTup_3, kTup_4, kTup_5, kTup_6, eLst_at, kLst_0, kLst_1, kLst_2, kLst_3, kLst_4, eDic0_at, eCall_at, kCall_some, o1_at, isiO_at, kIsi_some, tyD_non, tyD_bl, tyD_int, tyD_str, tyD_tup, eBM_at, kbm1_some, kbm2_some, eSl_at, ks2_some, ks3_some, ks4_some, oNone_at, oSome_at, kSome_int, slO_str, sSeq_at, kSeq_nx, kSeq_rt, kSeq_bk, kSeq_ct, sNext_at, sBreak_at, sCont_at, sRetN_at, sRet_at, kRet_some, sExpr_at, kExpr_some, sSet_at, kSet_some, sIf_at, kIf_true, kIf_false, sPar2_k, kPar2_some, sPar3_k, kPar3_some, sAsg_at, kAsg_some, kAsg2_some, mName_at, mTup_2, mTup_3, mCons_at, kmCons_some, mNil_at, sPut_at, kp1_some, kp2_some, kp3_some, kp4_some, kFn_rt, kFn_nx, mkFn_0, mkFn_1, mkFn_2, mkFn_3, mkFn_4, mkFn_5, sWhile_at, List.getElem?_cons_zero, List.getElem?_cons_succ, List.set_cons_zero, List.set_cons_succ, List.replicate_succ, List.replicate_zero, Nat.reduceSub, Bool.not_true, Bool.not_false, ite_true, ite_false, if_true, if_false, reduceCtorEq, fldM_at, sFldM_at, kSF1_some, kSF2_some, kSF3_some, sFldAddM_at, kSA1_some, kSA2_int, eMake_at, kMk1_some, kMk2_some, isCM_at, isCO_non, eGet1_at, kG12_some, kG13_some, eGet2_at, kG22_some, kG23_some, eCallD_at, kCallD_some, eKdx_at, kKdx_some, kIsB_at, kEqE_at, kNeE_at, kInN_at, minF_at, dictF_at, atI0, atI1, eq_str, ixO_tup, lenO_tup, mTup_2, List.cons.injEq, Nat.reduceEqDiff, decide_false, decide_true, and_false, and_true, false_and, true_and, Bool.or_false, Bool.or_true, Bool.true_or, Bool.false_or, Bool.and_true, Bool.and_false, Bool.false_and, Bool.true_and, eReprC_at, kRep2_some, kRep3_some, Int.reduceLE, Int.reduceLT, slO_str, lm, ct, i1, if_true, Option.map_some, dO, Wo.d]
  | false =>
    rw [h1] at i1
    cases h2 : decide (c ∈ SHORT) with
    | true =>
      rw [h2] at i2
      simp only [F_mark_at, b_mark_at, eVar_at, kVar_some, eC_at, eBin_at, k2_some, k3_some, eUn_at, k1_some, kVal_some, kBl_some, kEq_at, kBlN_some, kNe_at, kIn_at, kNotIn_at, kIx_at, ixO_tup, kLt_int, kLe_int, kGt_int, kGe_int, kLt_str, kLe_str, kGt_str, kGe_str, kIs_non, kIs_bl, kIs_int, kIs_str, kIs_tup, kIs_ref, kIsNot_non, kIsNot_bl, kIsNot_int, kIsNot_str, kIsNot_tup, kIsNot_ref, opAdd_int, opAdd_str, opSub_int, opMul_int, opDiv_int, opMod_int, opPow_int, opAnd_int, opOr_int, opNeg_int, eChain_at, kc1_some, kc2_some, kc3_true, kc3_false, kc4_some, tOf_at, kTru_some, kTru2_some, truD_non, truD_bl, truD_int, truD_tup, tAnd_at, kAnd_true, kAnd_false, tOr_at, kOr_true, kOr_false, tNot_at, kNot_some, tYes_at, eAnd_at, keAnd_some, keAnd2_true, keAnd2_false, eOr_at, keOr_some, keOr2_true, keOr2_false, eNot_at, keNot_some, keNot2_some, eIf_at, keIf_true, keIf_false, aNil_at, aCons_at, ka1_some, ka2_some, eTup_at, kTup_0, kTup_1, kTup_2, kTup_3, kTup_4, kTup_5, kTup_6, eLst_at, kLst_0, kLst_1, kLst_2, kLst_3, kLst_4, eDic0_at, eCall_at, kCall_some, o1_at, isiO_at, kIsi_some, tyD_non, tyD_bl, tyD_int, tyD_str, tyD_tup, eBM_at, kbm1_some, kbm2_some, eSl_at, ks2_some, ks3_some, ks4_some, oNone_at, oSome_at, kSome_int, slO_str, sSeq_at, kSeq_nx, kSeq_rt, kSeq_bk, kSeq_ct, sNext_at, sBreak_at, sCont_at, sRetN_at, sRet_at, kRet_some, sExpr_at, kExpr_some, sSet_at, kSet_some, sIf_at, kIf_true, kIf_false, sPar2_k, kPar2_some, sPar3_k, kPar3_some, sAsg_at, kAsg_some, kAsg2_some, mName_at, mTup_2, mTup_3, mCons_at, kmCons_some, mNil_at, sPut_at, kp1_some, kp2_some, kp3_some, kp4_some, kFn_rt, kFn_nx, mkFn_0, mkFn_1, mkFn_2, mkFn_3, mkFn_4, mkFn_5, sWhile_at, List.getElem?_cons_zero, List.getElem?_cons_succ, List.set_cons_zero, List.set_cons_succ, List.replicate_succ, List.replicate_zero, Nat.reduceSub, Bool.not_true, Bool.not_false, ite_true, ite_false, if_true, if_false, reduceCtorEq, fldM_at, sFldM_at, kSF1_some, kSF2_some, kSF3_some, sFldAddM_at, kSA1_some, kSA2_int, eMake_at, kMk1_some, kMk2_some, isCM_at, isCO_non, eGet1_at, kG12_some, kG13_some, eGet2_at, kG22_some, kG23_some, eCallD_at, kCallD_some, eKdx_at, kKdx_some, kIsB_at, kEqE_at, kNeE_at, kInN_at, minF_at, dictF_at, atI0, atI1, eq_str, ixO_tup, lenO_tup, mTup_2, List.cons.injEq, Nat.reduceEqDiff, decide_false, decide_true, and_false, and_true, false_and, true_and, Bool.or_false, Bool.or_true, Bool.true_or, Bool.false_or, Bool.and_true, Bool.and_false, Bool.false_and, Bool.true_and, eReprC_at, kRep2_some, kRep3_some, Int.reduceLE, Int.reduceLT, slO_str, lm, ct, i1, x0, i2, if_true, if_false, Option.map_some, dO, Wo.d]
    | false =>
      rw [h2] at i2
      simp only [F_mark_at, b_mark_at, eVar_at, kVar_some, eC_at, eBin_at, k2_some, k3_some, eUn_at, k1_some, kVal_some, kBl_some, kEq_at, kBlN_some, kNe_at, kIn_at, kNotIn_at, kIx_at, ixO_tup, kLt_int, kLe_int, kGt_int, kGe_int, kLt_str, kLe_str, kGt_str, kGe_str, kIs_non, kIs_bl, kIs_int, kIs_str, kIs_tup, kIs_ref, kIsNot_non, kIsNot_bl, kIsNot_int, kIsNot_str, kIsNot_tup, kIsNot_ref, opAdd_int, opAdd_str, opSub_int, opMul_int, opDiv_int, opMod_int, opPow_int, opAnd_int, opOr_int, opNeg_int, eChain_at, kc1_some, kc2_some, kc3_true, kc3_false, kc4_some, tOf_at, kTru_some, kTru2_some, truD_non, truD_bl, truD_int, truD_tup, tAnd_at, kAnd_true, kAnd_false, tOr_at, kOr_true, kOr_false, tNot_at, kNot_some, tYes_at, eAnd_at, keAnd_some, keAnd2_true, keAnd2_false, eOr_at, keOr_some, keOr2_true, keOr2_false, eNot_at, keNot_some, keNot2_some, eIf_at, keIf_true, keIf_false, aNil_at, aCons_at, ka1_some, ka2_some, eTup_at, kTup_0, kTup_1, kTup_2, kTup_3, kTup_4, kTup_5, kTup_6, eLst_at, kLst_0, kLst_1, kLst_2, kLst_3, kLst_4, eDic0_at, eCall_at, kCall_some, o1_at, isiO_at, kIsi_some, tyD_non, tyD_bl, tyD_int, tyD_str, tyD_tup, eBM_at, kbm1_some, kbm2_some, eSl_at, ks2_some, ks3_some, ks4_some, oNone_at, oSome_at, kSome_int, slO_str, sSeq_at, kSeq_nx, kSeq_rt, kSeq_bk, kSeq_ct, sNext_at, sBreak_at, sCont_at, sRetN_at, sRet_at, kRet_some, sExpr_at, kExpr_some, sSet_at, kSet_some, sIf_at, kIf_true, kIf_false, sPar2_k, kPar2_some, sPar3_k, kPar3_some, sAsg_at, kAsg_some, kAsg2_some, mName_at, mTup_2, mTup_3, mCons_at, kmCons_some, mNil_at, sPut_at, kp1_some, kp2_some, kp3_some, kp4_some, kFn_rt, kFn_nx, mkFn_0, mkFn_1, mkFn_2, mkFn_3, mkFn_4, mkFn_5, sWhile_at, List.getElem?_cons_zero, List.getElem?_cons_succ, List.set_cons_zero, List.set_cons_succ, List.replicate_succ, List.replicate_zero, Nat.reduceSub, Bool.not_true, Bool.not_false, ite_true, ite_false, if_true, if_false, reduceCtorEq, fldM_at, sFldM_at, kSF1_some, kSF2_some, kSF3_some, sFldAddM_at, kSA1_some, kSA2_int, eMake_at, kMk1_some, kMk2_some, isCM_at, isCO_non, eGet1_at, kG12_some, kG13_some, eGet2_at, kG22_some, kG23_some, eCallD_at, kCallD_some, eKdx_at, kKdx_some, kIsB_at, kEqE_at, kNeE_at, kInN_at, minF_at, dictF_at, atI0, atI1, eq_str, ixO_tup, lenO_tup, mTup_2, List.cons.injEq, Nat.reduceEqDiff, decide_false, decide_true, and_false, and_true, false_and, true_and, Bool.or_false, Bool.or_true, Bool.true_or, Bool.false_or, Bool.and_true, Bool.and_false, Bool.false_and, Bool.true_and, eReprC_at, kRep2_some, kRep3_some, Int.reduceLE, Int.reduceLT, slO_str, lm, ct, i1, x0, i2, if_false, Option.map_none, dO]
def prD (a : Nat) : Option (Wo × Nat) → D
  | none => .non
  | some (w, k) => .tup [w.d, .int ((a + k : Nat) : Int)]
theorem mem_tw {p : Nat → Bool} : ∀ {l : List Nat} {x : Nat}, x ∈ l.takeWhile p → p x = true
  | [], _, h => by cases h
  | c :: r, x, h => by
    by_cases hc : p c = true
    · rw [List.takeWhile_cons_of_pos hc] at h
      rcases List.mem_cons.mp h with rfl | h
      · exact hc
      · exact mem_tw h
    · rw [List.takeWhile_cons_of_neg hc] at h
      cases h
theorem wd_isnon (w : Wo) (st : Sto) : kIs w.d .non st = some (.bl false, st) := by
  cases w <;> rfl
theorem wd_isnotnon (w : Wo) (st : Sto) : kIsNot w.d .non st = some (.bl true, st) := by
  cases w <;> rfl
theorem word_at (pre r : List Nat) (c : Nat) (hl : (pre ++ c :: r).length ≤ 50000) (st : Sto) : ∃ g, F_word_at [.str (pre ++ c :: r), .int (pre.length : Nat)] st = some (prD pre.length (word1 c r), st ++ g) := by
  have ra := run_at pre (c :: r) (by omega) st
  have x0 := ix_pre pre c r (by omega) st
  unfold word1
  cases hw : isW c with
  | true =>
    rw [List.takeWhile_cons_of_pos hw] at ra
    have hl2 := hl
    rw [List.length_append, List.length_cons] at hl2
    have tl := tw_le r
    have R : Run (c :: r.takeWhile isW) := ⟨by simp, fun x hx => by
      rcases List.mem_cons.mp hx with rfl | hx
      · exact hw
      · exact mem_tw hx, by rw [List.length_cons]; omega⟩
    obtain ⟨g, rw1⟩ := run_word R st
    have ln := len_str (c :: r.takeWhile isW) (by rw [List.length_cons]; omega) (st ++ g)
    refine ⟨g, ?_⟩
    cases hr : runO c (r.takeWhile isW) with
    | none =>
      rw [hr] at rw1
      simp only [F_word_at, b_word_at, eVar_at, kVar_some, eC_at, eBin_at, k2_some, k3_some, eUn_at, k1_some, kVal_some, kBl_some, kEq_at, kBlN_some, kNe_at, kIn_at, kNotIn_at, kIx_at, ixO_tup, kLt_int, kLe_int, kGt_int, kGe_int, kLt_str, kLe_str, kGt_str, kGe_str, kIs_non, kIs_bl, kIs_int, kIs_str, kIs_tup, kIs_ref, kIsNot_non, kIsNot_bl, kIsNot_int, kIsNot_str, kIsNot_tup, kIsNot_ref, opAdd_int, opAdd_str, opSub_int, opMul_int, opDiv_int, opMod_int, opPow_int, opAnd_int, opOr_int, opNeg_int, eChain_at, kc1_some, kc2_some, kc3_true, kc3_false, kc4_some, tOf_at, kTru_some, kTru2_some, truD_non, truD_bl, truD_int, truD_tup, tAnd_at, kAnd_true, kAnd_false, tOr_at, kOr_true, kOr_false, tNot_at, kNot_some, tYes_at, eAnd_at, keAnd_some, keAnd2_true, keAnd2_false, eOr_at, keOr_some, keOr2_true, keOr2_false, eNot_at, keNot_some, keNot2_some, eIf_at, keIf_true, keIf_false, aNil_at, aCons_at, ka1_some, ka2_some, eTup_at, kTup_0, kTup_1, kTup_2, kTup_3, kTup_4, kTup_5, kTup_6, eLst_at, kLst_0, kLst_1, kLst_2, kLst_3, kLst_4, eDic0_at, eCall_at, kCall_some, o1_at, isiO_at, kIsi_some, tyD_non, tyD_bl, tyD_int, tyD_str, tyD_tup, eBM_at, kbm1_some, kbm2_some, eSl_at, ks2_some, ks3_some, ks4_some, oNone_at, oSome_at, kSome_int, slO_str, sSeq_at, kSeq_nx, kSeq_rt, kSeq_bk, kSeq_ct, sNext_at, sBreak_at, sCont_at, sRetN_at, sRet_at, kRet_some, sExpr_at, kExpr_some, sSet_at, kSet_some, sIf_at, kIf_true, kIf_false, sPar2_k, kPar2_some, sPar3_k, kPar3_some, sAsg_at, kAsg_some, kAsg2_some, mName_at, mTup_2, mTup_3, mCons_at, kmCons_some, mNil_at, sPut_at, kp1_some, kp2_some, kp3_some, kp4_some, kFn_rt, kFn_nx, mkFn_0, mkFn_1, mkFn_2, mkFn_3, mkFn_4, mkFn_5, sWhile_at, List.getElem?_cons_zero, List.getElem?_cons_succ, List.set_cons_zero, List.set_cons_succ, List.replicate_succ, List.replicate_zero, Nat.reduceSub, Bool.not_true, Bool.not_false, ite_true, ite_false, if_true, if_false, reduceCtorEq, fldM_at, sFldM_at, kSF1_some, kSF2_some, kSF3_some, sFldAddM_at, kSA1_some, kSA2_int, eMake_at, kMk1_some, kMk2_some, isCM_at, isCO_non, eGet1_at, kG12_some, kG13_some, eGet2_at, kG22_some, kG23_some, eCallD_at, kCallD_some, eKdx_at, kKdx_some, kIsB_at, kEqE_at, kNeE_at, kInN_at, minF_at, dictF_at, atI0, atI1, eq_str, ixO_tup, lenO_tup, mTup_2, List.cons.injEq, Nat.reduceEqDiff, decide_false, decide_true, and_false, and_true, false_and, true_and, Bool.or_false, Bool.or_true, Bool.true_or, Bool.false_or, Bool.and_true, Bool.and_false, Bool.false_and, Bool.true_and, eReprC_at, kRep2_some, kRep3_some, Int.reduceLE, Int.reduceLT, ra, rw1, ln, dO, if_true, Option.map_none, prD]
    | some w =>
      rw [hr] at rw1
      have e1 : ((pre.length + ((r.takeWhile isW).length + 1) : Nat) : Int) = (pre.length : Int) + ((c :: r.takeWhile isW).length : Int) := by
        rw [List.length_cons]
        omega
      have kn := wd_isnon w
      simp only [F_word_at, b_word_at, eVar_at, kVar_some, eC_at, eBin_at, k2_some, k3_some, eUn_at, k1_some, kVal_some, kBl_some, kEq_at, kBlN_some, kNe_at, kIn_at, kNotIn_at, kIx_at, ixO_tup, kLt_int, kLe_int, kGt_int, kGe_int, kLt_str, kLe_str, kGt_str, kGe_str, kIs_non, kIs_bl, kIs_int, kIs_str, kIs_tup, kIs_ref, kIsNot_non, kIsNot_bl, kIsNot_int, kIsNot_str, kIsNot_tup, kIsNot_ref, opAdd_int, opAdd_str, opSub_int, opMul_int, opDiv_int, opMod_int, opPow_int, opAnd_int, opOr_int, opNeg_int, eChain_at, kc1_some, kc2_some, kc3_true, kc3_false, kc4_some, tOf_at, kTru_some, kTru2_some, truD_non, truD_bl, truD_int, truD_tup, tAnd_at, kAnd_true, kAnd_false, tOr_at, kOr_true, kOr_false, tNot_at, kNot_some, tYes_at, eAnd_at, keAnd_some, keAnd2_true, keAnd2_false, eOr_at, keOr_some, keOr2_true, keOr2_false, eNot_at, keNot_some, keNot2_some, eIf_at, keIf_true, keIf_false, aNil_at, aCons_at, ka1_some, ka2_some, eTup_at, kTup_0, kTup_1, kTup_2, kTup_3, kTup_4, kTup_5, kTup_6, eLst_at, kLst_0, kLst_1, kLst_2, kLst_3, kLst_4, eDic0_at, eCall_at, kCall_some, o1_at, isiO_at, kIsi_some, tyD_non, tyD_bl, tyD_int, tyD_str, tyD_tup, eBM_at, kbm1_some, kbm2_some, eSl_at, ks2_some, ks3_some, ks4_some, oNone_at, oSome_at, kSome_int, slO_str, sSeq_at, kSeq_nx, kSeq_rt, kSeq_bk, kSeq_ct, sNext_at, sBreak_at, sCont_at, sRetN_at, sRet_at, kRet_some, sExpr_at, kExpr_some, sSet_at, kSet_some, sIf_at, kIf_true, kIf_false, sPar2_k, kPar2_some, sPar3_k, kPar3_some, sAsg_at, kAsg_some, kAsg2_some, mName_at, mTup_2, mTup_3, mCons_at, kmCons_some, mNil_at, sPut_at, kp1_some, kp2_some, kp3_some, kp4_some, kFn_rt, kFn_nx, mkFn_0, mkFn_1, mkFn_2, mkFn_3, mkFn_4, mkFn_5, sWhile_at, List.getElem?_cons_zero, List.getElem?_cons_succ, List.set_cons_zero, List.set_cons_succ, List.replicate_succ, List.replicate_zero, Nat.reduceSub, Bool.not_true, Bool.not_false, ite_true, ite_false, if_true, if_false, reduceCtorEq, fldM_at, sFldM_at, kSF1_some, kSF2_some, kSF3_some, sFldAddM_at, kSA1_some, kSA2_int, eMake_at, kMk1_some, kMk2_some, isCM_at, isCO_non, eGet1_at, kG12_some, kG13_some, eGet2_at, kG22_some, kG23_some, eCallD_at, kCallD_some, eKdx_at, kKdx_some, kIsB_at, kEqE_at, kNeE_at, kInN_at, minF_at, dictF_at, atI0, atI1, eq_str, ixO_tup, lenO_tup, mTup_2, List.cons.injEq, Nat.reduceEqDiff, decide_false, decide_true, and_false, and_true, false_and, true_and, Bool.or_false, Bool.or_true, Bool.true_or, Bool.false_or, Bool.and_true, Bool.and_false, Bool.false_and, Bool.true_and, eReprC_at, kRep2_some, kRep3_some, Int.reduceLE, Int.reduceLT, ra, rw1, ln, dO, kn, if_true, Option.map_some, prD, e1]
  | false =>
    rw [List.takeWhile_cons_of_neg (by rw [hw]; exact Bool.false_ne_true)] at ra
    have d34 := dec_one c 34
    refine ⟨[], ?_⟩
    rw [List.append_nil]
    cases hq : decide (c = 34) with
    | true =>
      rw [hq] at d34
      have hc := of_decide_eq_true hq
      have tx := text_at pre r (by rw [← hc]; exact hl) st
      rw [← hc] at tx
      cases ht : textO r with
      | none =>
        rw [ht] at tx
        have tx' : F_text_at [.str (pre ++ c :: r), .int (pre.length : Nat)] st = some (.non, st) := tx
        simp only [F_word_at, b_word_at, eVar_at, kVar_some, eC_at, eBin_at, k2_some, k3_some, eUn_at, k1_some, kVal_some, kBl_some, kEq_at, kBlN_some, kNe_at, kIn_at, kNotIn_at, kIx_at, ixO_tup, kLt_int, kLe_int, kGt_int, kGe_int, kLt_str, kLe_str, kGt_str, kGe_str, kIs_non, kIs_bl, kIs_int, kIs_str, kIs_tup, kIs_ref, kIsNot_non, kIsNot_bl, kIsNot_int, kIsNot_str, kIsNot_tup, kIsNot_ref, opAdd_int, opAdd_str, opSub_int, opMul_int, opDiv_int, opMod_int, opPow_int, opAnd_int, opOr_int, opNeg_int, eChain_at, kc1_some, kc2_some, kc3_true, kc3_false, kc4_some, tOf_at, kTru_some, kTru2_some, truD_non, truD_bl, truD_int, truD_tup, tAnd_at, kAnd_true, kAnd_false, tOr_at, kOr_true, kOr_false, tNot_at, kNot_some, tYes_at, eAnd_at, keAnd_some, keAnd2_true, keAnd2_false, eOr_at, keOr_some, keOr2_true, keOr2_false, eNot_at, keNot_some, keNot2_some, eIf_at, keIf_true, keIf_false, aNil_at, aCons_at, ka1_some, ka2_some, eTup_at, kTup_0, kTup_1, kTup_2, kTup_3, kTup_4, kTup_5, kTup_6, eLst_at, kLst_0, kLst_1, kLst_2, kLst_3, kLst_4, eDic0_at, eCall_at, kCall_some, o1_at, isiO_at, kIsi_some, tyD_non, tyD_bl, tyD_int, tyD_str, tyD_tup, eBM_at, kbm1_some, kbm2_some, eSl_at, ks2_some, ks3_some, ks4_some, oNone_at, oSome_at, kSome_int, slO_str, sSeq_at, kSeq_nx, kSeq_rt, kSeq_bk, kSeq_ct, sNext_at, sBreak_at, sCont_at, sRetN_at, sRet_at, kRet_some, sExpr_at, kExpr_some, sSet_at, kSet_some, sIf_at, kIf_true, kIf_false, sPar2_k, kPar2_some, sPar3_k, kPar3_some, sAsg_at, kAsg_some, kAsg2_some, mName_at, mTup_2, mTup_3, mCons_at, kmCons_some, mNil_at, sPut_at, kp1_some, kp2_some, kp3_some, kp4_some, kFn_rt, kFn_nx, mkFn_0, mkFn_1, mkFn_2, mkFn_3, mkFn_4, mkFn_5, sWhile_at, List.getElem?_cons_zero, List.getElem?_cons_succ, List.set_cons_zero, List.set_cons_succ, List.replicate_succ, List.replicate_zero, Nat.reduceSub, Bool.not_true, Bool.not_false, ite_true, ite_false, if_true, if_false, reduceCtorEq, fldM_at, sFldM_at, kSF1_some, kSF2_some, kSF3_some, sFldAddM_at, kSA1_some, kSA2_int, eMake_at, kMk1_some, kMk2_some, isCM_at, isCO_non, eGet1_at, kG12_some, kG13_some, eGet2_at, kG22_some, kG23_some, eCallD_at, kCallD_some, eKdx_at, kKdx_some, kIsB_at, kEqE_at, kNeE_at, kInN_at, minF_at, dictF_at, atI0, atI1, eq_str, ixO_tup, lenO_tup, mTup_2, List.cons.injEq, Nat.reduceEqDiff, decide_false, decide_true, and_false, and_true, false_and, true_and, Bool.or_false, Bool.or_true, Bool.true_or, Bool.false_or, Bool.and_true, Bool.and_false, Bool.false_and, Bool.true_and, eReprC_at, kRep2_some, kRep3_some, Int.reduceLE, Int.reduceLT, ra, x0, d34, tx', if_true, if_false, prD, -List.cons.injEq]
      | some p =>
        obtain ⟨w, k⟩ := p
        rw [ht] at tx
        have tx' : F_text_at [.str (pre ++ c :: r), .int (pre.length : Nat)] st = some (w.d, st) := tx
        have wk : w = .tx [116, 101, 120, 116] (untQ r) ∧ k = (untQ r).length + 2 := by
          unfold textO at ht
          split at ht
          · injection ht with ht
            injection ht with h1 h2
            exact ⟨h1.symm, h2.symm⟩
          · cases ht
        obtain ⟨rfl, rfl⟩ := wk
        have ul : (untQ r).length ≤ r.length := (List.takeWhile_prefix _).length_le
        have hl2 := hl
        rw [List.length_append, List.length_cons] at hl2
        have ln := len_str (untQ r) (by omega) st
        have e1 : ((pre.length + ((untQ r).length + 2) : Nat) : Int) = (pre.length : Int) + (((untQ r).length : Int) + 2) := by omega
        simp only [F_word_at, b_word_at, eVar_at, kVar_some, eC_at, eBin_at, k2_some, k3_some, eUn_at, k1_some, kVal_some, kBl_some, kEq_at, kBlN_some, kNe_at, kIn_at, kNotIn_at, kIx_at, ixO_tup, kLt_int, kLe_int, kGt_int, kGe_int, kLt_str, kLe_str, kGt_str, kGe_str, kIs_non, kIs_bl, kIs_int, kIs_str, kIs_tup, kIs_ref, kIsNot_non, kIsNot_bl, kIsNot_int, kIsNot_str, kIsNot_tup, kIsNot_ref, opAdd_int, opAdd_str, opSub_int, opMul_int, opDiv_int, opMod_int, opPow_int, opAnd_int, opOr_int, opNeg_int, eChain_at, kc1_some, kc2_some, kc3_true, kc3_false, kc4_some, tOf_at, kTru_some, kTru2_some, truD_non, truD_bl, truD_int, truD_tup, tAnd_at, kAnd_true, kAnd_false, tOr_at, kOr_true, kOr_false, tNot_at, kNot_some, tYes_at, eAnd_at, keAnd_some, keAnd2_true, keAnd2_false, eOr_at, keOr_some, keOr2_true, keOr2_false, eNot_at, keNot_some, keNot2_some, eIf_at, keIf_true, keIf_false, aNil_at, aCons_at, ka1_some, ka2_some, eTup_at, kTup_0, kTup_1, kTup_2, kTup_3, kTup_4, kTup_5, kTup_6, eLst_at, kLst_0, kLst_1, kLst_2, kLst_3, kLst_4, eDic0_at, eCall_at, kCall_some, o1_at, isiO_at, kIsi_some, tyD_non, tyD_bl, tyD_int, tyD_str, tyD_tup, eBM_at, kbm1_some, kbm2_some, eSl_at, ks2_some, ks3_some, ks4_some, oNone_at, oSome_at, kSome_int, slO_str, sSeq_at, kSeq_nx, kSeq_rt, kSeq_bk, kSeq_ct, sNext_at, sBreak_at, sCont_at, sRetN_at, sRet_at, kRet_some, sExpr_at, kExpr_some, sSet_at, kSet_some, sIf_at, kIf_true, kIf_false, sPar2_k, kPar2_some, sPar3_k, kPar3_some, sAsg_at, kAsg_some, kAsg2_some, mName_at, mTup_2, mTup_3, mCons_at, kmCons_some, mNil_at, sPut_at, kp1_some, kp2_some, kp3_some, kp4_some, kFn_rt, kFn_nx, mkFn_0, mkFn_1, mkFn_2, mkFn_3, mkFn_4, mkFn_5, sWhile_at, List.getElem?_cons_zero, List.getElem?_cons_succ, List.set_cons_zero, List.set_cons_succ, List.replicate_succ, List.replicate_zero, Nat.reduceSub, Bool.not_true, Bool.not_false, ite_true, ite_false, if_true, if_false, reduceCtorEq, fldM_at, sFldM_at, kSF1_some, kSF2_some, kSF3_some, sFldAddM_at, kSA1_some, kSA2_int, eMake_at, kMk1_some, kMk2_some, isCM_at, isCO_non, eGet1_at, kG12_some, kG13_some, eGet2_at, kG22_some, kG23_some, eCallD_at, kCallD_some, eKdx_at, kKdx_some, kIsB_at, kEqE_at, kNeE_at, kInN_at, minF_at, dictF_at, atI0, atI1, eq_str, ixO_tup, lenO_tup, mTup_2, List.cons.injEq, Nat.reduceEqDiff, decide_false, decide_true, and_false, and_true, false_and, true_and, Bool.or_false, Bool.or_true, Bool.true_or, Bool.false_or, Bool.and_true, Bool.and_false, Bool.false_and, Bool.true_and, eReprC_at, kRep2_some, kRep3_some, Int.reduceLE, Int.reduceLT, ra, x0, d34, tx', Wo.d, atI1, ln, if_true, if_false, prD, e1, -List.cons.injEq]
    | false =>
      rw [hq] at d34
      have mk := mark_at pre r c hl st
      cases ht : markO c r with
      | none =>
        rw [ht] at mk
        have mk' : F_mark_at [.str (pre ++ c :: r), .int (pre.length : Nat)] st = some (.non, st) := mk
        simp only [F_word_at, b_word_at, eVar_at, kVar_some, eC_at, eBin_at, k2_some, k3_some, eUn_at, k1_some, kVal_some, kBl_some, kEq_at, kBlN_some, kNe_at, kIn_at, kNotIn_at, kIx_at, ixO_tup, kLt_int, kLe_int, kGt_int, kGe_int, kLt_str, kLe_str, kGt_str, kGe_str, kIs_non, kIs_bl, kIs_int, kIs_str, kIs_tup, kIs_ref, kIsNot_non, kIsNot_bl, kIsNot_int, kIsNot_str, kIsNot_tup, kIsNot_ref, opAdd_int, opAdd_str, opSub_int, opMul_int, opDiv_int, opMod_int, opPow_int, opAnd_int, opOr_int, opNeg_int, eChain_at, kc1_some, kc2_some, kc3_true, kc3_false, kc4_some, tOf_at, kTru_some, kTru2_some, truD_non, truD_bl, truD_int, truD_tup, tAnd_at, kAnd_true, kAnd_false, tOr_at, kOr_true, kOr_false, tNot_at, kNot_some, tYes_at, eAnd_at, keAnd_some, keAnd2_true, keAnd2_false, eOr_at, keOr_some, keOr2_true, keOr2_false, eNot_at, keNot_some, keNot2_some, eIf_at, keIf_true, keIf_false, aNil_at, aCons_at, ka1_some, ka2_some, eTup_at, kTup_0, kTup_1, kTup_2, kTup_3, kTup_4, kTup_5, kTup_6, eLst_at, kLst_0, kLst_1, kLst_2, kLst_3, kLst_4, eDic0_at, eCall_at, kCall_some, o1_at, isiO_at, kIsi_some, tyD_non, tyD_bl, tyD_int, tyD_str, tyD_tup, eBM_at, kbm1_some, kbm2_some, eSl_at, ks2_some, ks3_some, ks4_some, oNone_at, oSome_at, kSome_int, slO_str, sSeq_at, kSeq_nx, kSeq_rt, kSeq_bk, kSeq_ct, sNext_at, sBreak_at, sCont_at, sRetN_at, sRet_at, kRet_some, sExpr_at, kExpr_some, sSet_at, kSet_some, sIf_at, kIf_true, kIf_false, sPar2_k, kPar2_some, sPar3_k, kPar3_some, sAsg_at, kAsg_some, kAsg2_some, mName_at, mTup_2, mTup_3, mCons_at, kmCons_some, mNil_at, sPut_at, kp1_some, kp2_some, kp3_some, kp4_some, kFn_rt, kFn_nx, mkFn_0, mkFn_1, mkFn_2, mkFn_3, mkFn_4, mkFn_5, sWhile_at, List.getElem?_cons_zero, List.getElem?_cons_succ, List.set_cons_zero, List.set_cons_succ, List.replicate_succ, List.replicate_zero, Nat.reduceSub, Bool.not_true, Bool.not_false, ite_true, ite_false, if_true, if_false, reduceCtorEq, fldM_at, sFldM_at, kSF1_some, kSF2_some, kSF3_some, sFldAddM_at, kSA1_some, kSA2_int, eMake_at, kMk1_some, kMk2_some, isCM_at, isCO_non, eGet1_at, kG12_some, kG13_some, eGet2_at, kG22_some, kG23_some, eCallD_at, kCallD_some, eKdx_at, kKdx_some, kIsB_at, kEqE_at, kNeE_at, kInN_at, minF_at, dictF_at, atI0, atI1, eq_str, ixO_tup, lenO_tup, mTup_2, List.cons.injEq, Nat.reduceEqDiff, decide_false, decide_true, and_false, and_true, false_and, true_and, Bool.or_false, Bool.or_true, Bool.true_or, Bool.false_or, Bool.and_true, Bool.and_false, Bool.false_and, Bool.true_and, eReprC_at, kRep2_some, kRep3_some, Int.reduceLE, Int.reduceLT, ra, x0, d34, mk', if_true, if_false, prD, -List.cons.injEq]
      | some p =>
        obtain ⟨w, k⟩ := p
        rw [ht] at mk
        have mk' : F_mark_at [.str (pre ++ c :: r), .int (pre.length : Nat)] st = some (w.d, st) := mk
        have wk : ∃ m : List Nat, w = .tx [109, 97, 114, 107] m ∧ k = m.length ∧ m.length ≤ 2 := by
          unfold markO at ht
          split at ht
          · rename_i h1
            injection ht with ht
            injection ht with h1' h2
            have := long_two _ (of_decide_eq_true h1)
            exact ⟨_, h1'.symm, by rw [this]; exact h2.symm, by omega⟩
          · split at ht
            · injection ht with ht
              injection ht with h1' h2
              exact ⟨_, h1'.symm, by rw [List.length_singleton]; exact h2.symm, by simp⟩
            · cases ht
        obtain ⟨m, rfl, rfl, hm⟩ := wk
        have ln := len_str m (by omega) st
        have e1 : ((pre.length + m.length : Nat) : Int) = (pre.length : Int) + (m.length : Int) := by omega
        simp only [F_word_at, b_word_at, eVar_at, kVar_some, eC_at, eBin_at, k2_some, k3_some, eUn_at, k1_some, kVal_some, kBl_some, kEq_at, kBlN_some, kNe_at, kIn_at, kNotIn_at, kIx_at, ixO_tup, kLt_int, kLe_int, kGt_int, kGe_int, kLt_str, kLe_str, kGt_str, kGe_str, kIs_non, kIs_bl, kIs_int, kIs_str, kIs_tup, kIs_ref, kIsNot_non, kIsNot_bl, kIsNot_int, kIsNot_str, kIsNot_tup, kIsNot_ref, opAdd_int, opAdd_str, opSub_int, opMul_int, opDiv_int, opMod_int, opPow_int, opAnd_int, opOr_int, opNeg_int, eChain_at, kc1_some, kc2_some, kc3_true, kc3_false, kc4_some, tOf_at, kTru_some, kTru2_some, truD_non, truD_bl, truD_int, truD_tup, tAnd_at, kAnd_true, kAnd_false, tOr_at, kOr_true, kOr_false, tNot_at, kNot_some, tYes_at, eAnd_at, keAnd_some, keAnd2_true, keAnd2_false, eOr_at, keOr_some, keOr2_true, keOr2_false, eNot_at, keNot_some, keNot2_some, eIf_at, keIf_true, keIf_false, aNil_at, aCons_at, ka1_some, ka2_some, eTup_at, kTup_0, kTup_1, kTup_2, kTup_3, kTup_4, kTup_5, kTup_6, eLst_at, kLst_0, kLst_1, kLst_2, kLst_3, kLst_4, eDic0_at, eCall_at, kCall_some, o1_at, isiO_at, kIsi_some, tyD_non, tyD_bl, tyD_int, tyD_str, tyD_tup, eBM_at, kbm1_some, kbm2_some, eSl_at, ks2_some, ks3_some, ks4_some, oNone_at, oSome_at, kSome_int, slO_str, sSeq_at, kSeq_nx, kSeq_rt, kSeq_bk, kSeq_ct, sNext_at, sBreak_at, sCont_at, sRetN_at, sRet_at, kRet_some, sExpr_at, kExpr_some, sSet_at, kSet_some, sIf_at, kIf_true, kIf_false, sPar2_k, kPar2_some, sPar3_k, kPar3_some, sAsg_at, kAsg_some, kAsg2_some, mName_at, mTup_2, mTup_3, mCons_at, kmCons_some, mNil_at, sPut_at, kp1_some, kp2_some, kp3_some, kp4_some, kFn_rt, kFn_nx, mkFn_0, mkFn_1, mkFn_2, mkFn_3, mkFn_4, mkFn_5, sWhile_at, List.getElem?_cons_zero, List.getElem?_cons_succ, List.set_cons_zero, List.set_cons_succ, List.replicate_succ, List.replicate_zero, Nat.reduceSub, Bool.not_true, Bool.not_false, ite_true, ite_false, if_true, if_false, reduceCtorEq, fldM_at, sFldM_at, kSF1_some, kSF2_some, kSF3_some, sFldAddM_at, kSA1_some, kSA2_int, eMake_at, kMk1_some, kMk2_some, isCM_at, isCO_non, eGet1_at, kG12_some, kG13_some, eGet2_at, kG22_some, kG23_some, eCallD_at, kCallD_some, eKdx_at, kKdx_some, kIsB_at, kEqE_at, kNeE_at, kInN_at, minF_at, dictF_at, atI0, atI1, eq_str, ixO_tup, lenO_tup, mTup_2, List.cons.injEq, Nat.reduceEqDiff, decide_false, decide_true, and_false, and_true, false_and, true_and, Bool.or_false, Bool.or_true, Bool.true_or, Bool.false_or, Bool.and_true, Bool.and_false, Bool.false_and, Bool.true_and, eReprC_at, kRep2_some, kRep3_some, Int.reduceLE, Int.reduceLT, ra, x0, d34, mk', Wo.d, atI1, ln, if_true, if_false, prD, e1, -List.cons.injEq]
end Math

set_option maxRecDepth 100000
set_option maxHeartbeats 4000000
namespace Math
open MP Text PySem
def wds : Nat → List Nat → Option (List Wo)
  | 0, _ => some []
  | _ + 1, [] => some []
  | n + 1, c :: r => if c = 35 then some [] else if c = 32 then wds n r else match word1 c r with
    | none => none
    | some (w, k) => (wds n ((c :: r).drop k)).map fun ws => w :: ws
theorem untQ_lt : ∀ {r : List Nat}, 34 ∈ r → (untQ r).length < r.length
  | [], h => by cases h
  | c :: r, h => by
    unfold untQ
    by_cases hc : c = 34
    · rw [List.takeWhile_cons_of_neg (by simp [hc])]
      simp
    · rw [List.takeWhile_cons_of_pos (by simp [hc]), List.length_cons, List.length_cons]
      have : 34 ∈ r := by
        rcases List.mem_cons.mp h with z | z
        · exact absurd z.symm hc
        · exact z
      have := untQ_lt this
      unfold untQ at this
      omega
theorem word1_len {c : Nat} {r : List Nat} {w : Wo} {k : Nat} (h : word1 c r = some (w, k)) : 1 ≤ k ∧ k ≤ r.length + 1 := by
  unfold word1 at h
  split at h
  · obtain ⟨w', _, e⟩ := Option.map_eq_some_iff.mp h
    injection e with _ e
    have := tw_le r
    omega
  · split at h
    · unfold textO at h
      split at h
      · rename_i hc
        injection h with h
        injection h with _ h
        rw [Bool.and_eq_true] at hc
        have := untQ_lt (of_decide_eq_true hc.1)
        omega
      · cases h
    · unfold markO at h
      split at h
      · rename_i hc
        injection h with h
        injection h with _ h
        have := long_two _ (of_decide_eq_true hc)
        rw [List.length_take, List.length_cons] at this
        omega
      · split at h
        · injection h with h
          injection h with _ h
          omega
        · cases h
theorem loopW_rt {t : MT} {u : MS} {n : Nat} {ρ ρ2 : Rho} {st st' st'' : Sto} {d : D} (h : t ρ st = some (true, st')) (h2 : u ρ st' = some (.rt d, ρ2, st'')) : loopW t u (n + 1) ρ st = some (.rt d, ρ2, st'') := by
  simp only [loopW, h, Option.bind_some, if_true, h2]
theorem loopW_ct {t : MT} {u : MS} {n : Nat} {ρ ρ2 : Rho} {st st' st'' : Sto} (h : t ρ st = some (true, st')) (h2 : u ρ st' = some (.ct, ρ2, st'')) : loopW t u (n + 1) ρ st = loopW t u n ρ2 st'' := by
  simp only [loopW, h, Option.bind_some, if_true, h2]
theorem app_d {st : Sto} {p : Nat} {xs : List D} (h : st[p]? = some (.lst xs)) (hl : xs.length ≤ 100000) (d : D) : appM (.ref p) [d] st = some (.non, st.set p (.lst (xs ++ [d]))) ∧ isL st (.ref p) = true ∧ (st.set p (.lst (xs ++ [d])))[p]? = some (.lst (xs ++ [d])) := by
  have hm : myL st p = some xs := by
    unfold myL
    rw [h]
  have hr : rdL st p = some xs := by
    unfold rdL
    rw [h]
  refine ⟨?_, ?_, List.getElem?_set_self (List.getElem?_eq_some_iff.mp h).1⟩
  · have : xs.length < LIM := by
      unfold LIM
      omega
    simp only [appM, hm, this, if_true]
  · show (rdL st p).isSome = true
    rw [hr]
    rfl
theorem dec_one' (a b : Nat) : (!decide ([a] = [b])) = !decide (a = b) := by rw [dec_one]
theorem wo_loop (p : Nat) : ∀ (n : Nat) (suf pre : List Nat) (found : List Wo) (st : Sto) (x3 : Option D), suf.length < n → (pre ++ suf).length ≤ 50000 → st[p]? = some (.lst (found.map Wo.d)) → found.length + suf.length ≤ 50000 →
    ∃ m st', m ≤ suf.length + 1 ∧ Only [p] st st' ∧ ((∃ ws y2 y3, wds n suf = some ws ∧ (∀ k, loopW tW_words_of_1 uW_words_of_2 (m + k) [some (.str (pre ++ suf)), some (.ref p), some (.int (pre.length : Nat)), x3] st = some (.nx, [some (.str (pre ++ suf)), some (.ref p), y2, y3], st')) ∧ st'[p]? = some (.lst ((found ++ ws).map Wo.d)) ∧ ws.length ≤ suf.length) ∨
      (wds n suf = none ∧ ∃ ρ', ∀ k, loopW tW_words_of_1 uW_words_of_2 (m + k) [some (.str (pre ++ suf)), some (.ref p), some (.int (pre.length : Nat)), x3] st = some (.rt .non, ρ', st')))
  | 0, suf, pre, found, st, x3, hn, _, _, _ => absurd hn (Nat.not_lt_zero _)
  | n + 1, [], pre, found, st, x3, hn, hl, hp, hf => by
    refine ⟨1, st, by simp, Only.refl, .inl ⟨[], some (.int (pre.length : Nat)), x3, rfl, fun k => ?_, by rw [List.append_nil]; exact hp, Nat.le_refl _⟩⟩
    rw [Nat.add_comm 1 k]
    refine loopW_stop (st' := st) ?_
    have c : ¬ ((pre.length : Int) < ((pre ++ ([] : List Nat)).length : Int)) := by simp
    simp only [tW_words_of_1, eVar_at, kVar_some, eC_at, eBin_at, k2_some, k3_some, eUn_at, k1_some, kVal_some, kBl_some, kEq_at, kBlN_some, kNe_at, kIn_at, kNotIn_at, kIx_at, ixO_tup, kLt_int, kLe_int, kGt_int, kGe_int, kLt_str, kLe_str, kGt_str, kGe_str, kIs_non, kIs_bl, kIs_int, kIs_str, kIs_tup, kIs_ref, kIsNot_non, kIsNot_bl, kIsNot_int, kIsNot_str, kIsNot_tup, kIsNot_ref, opAdd_int, opAdd_str, opSub_int, opMul_int, opDiv_int, opMod_int, opPow_int, opAnd_int, opOr_int, opNeg_int, eChain_at, kc1_some, kc2_some, kc3_true, kc3_false, kc4_some, tOf_at, kTru_some, kTru2_some, truD_non, truD_bl, truD_int, truD_tup, tAnd_at, kAnd_true, kAnd_false, tOr_at, kOr_true, kOr_false, tNot_at, kNot_some, tYes_at, eAnd_at, keAnd_some, keAnd2_true, keAnd2_false, eOr_at, keOr_some, keOr2_true, keOr2_false, eNot_at, keNot_some, keNot2_some, eIf_at, keIf_true, keIf_false, aNil_at, aCons_at, ka1_some, ka2_some, eTup_at, kTup_0, kTup_1, kTup_2, kTup_3, kTup_4, kTup_5, kTup_6, eLst_at, kLst_0, kLst_1, kLst_2, kLst_3, kLst_4, eDic0_at, eCall_at, kCall_some, o1_at, isiO_at, kIsi_some, tyD_non, tyD_bl, tyD_int, tyD_str, tyD_tup, eBM_at, kbm1_some, kbm2_some, eSl_at, ks2_some, ks3_some, ks4_some, oNone_at, oSome_at, kSome_int, slO_str, sSeq_at, kSeq_nx, kSeq_rt, kSeq_bk, kSeq_ct, sNext_at, sBreak_at, sCont_at, sRetN_at, sRet_at, kRet_some, sExpr_at, kExpr_some, sSet_at, kSet_some, sIf_at, kIf_true, kIf_false, sPar2_k, kPar2_some, sPar3_k, kPar3_some, sAsg_at, kAsg_some, kAsg2_some, mName_at, mTup_2, mTup_3, mCons_at, kmCons_some, mNil_at, sPut_at, kp1_some, kp2_some, kp3_some, kp4_some, kFn_rt, kFn_nx, mkFn_0, mkFn_1, mkFn_2, mkFn_3, mkFn_4, mkFn_5, sWhile_at, List.getElem?_cons_zero, List.getElem?_cons_succ, List.set_cons_zero, List.set_cons_succ, List.replicate_succ, List.replicate_zero, Nat.reduceSub, Bool.not_true, Bool.not_false, ite_true, ite_false, if_true, if_false, reduceCtorEq, fldM_at, sFldM_at, kSF1_some, kSF2_some, kSF3_some, sFldAddM_at, kSA1_some, kSA2_int, eMake_at, kMk1_some, kMk2_some, isCM_at, isCO_non, eGet1_at, kG12_some, kG13_some, eGet2_at, kG22_some, kG23_some, eCallD_at, kCallD_some, eKdx_at, kKdx_some, kIsB_at, kEqE_at, kNeE_at, kInN_at, minF_at, dictF_at, atI0, atI1, eq_str, ixO_tup, lenO_tup, mTup_2, List.cons.injEq, Nat.reduceEqDiff, decide_false, decide_true, and_false, and_true, false_and, true_and, Bool.or_false, Bool.or_true, Bool.true_or, Bool.false_or, Bool.and_true, Bool.and_false, Bool.false_and, Bool.true_and, eReprC_at, kRep2_some, kRep3_some, Int.reduceLE, Int.reduceLT, len_str _ (show (pre ++ ([] : List Nat)).length ≤ 100000 by omega), c, decide_false]
  | n + 1, c :: r, pre, found, st, x3, hn, hl, hp, hf => by
    have c1 : (pre.length : Int) < ((pre ++ c :: r).length : Int) := by
      rw [List.length_append, List.length_cons]
      omega
    have x0 := fun s => ix_pre pre c r (by omega) s
    have ln := len_str (pre ++ c :: r) (by omega) st
    have d35 := dec_one c 35
    have d32 := dec_one c 32
    rw [List.length_cons] at hn hf
    by_cases h35 : c = 35
    · refine ⟨1, st, by simp, Only.refl, .inl ⟨[], some (.int (pre.length : Nat)), x3, by unfold wds; rw [if_pos h35], fun k => ?_, by rw [List.append_nil]; exact hp, Nat.zero_le _⟩⟩
      rw [Nat.add_comm 1 k]
      refine loopW_stop (st' := st) ?_
      rw [decide_eq_true h35] at d35
      simp only [tW_words_of_1, eVar_at, kVar_some, eC_at, eBin_at, k2_some, k3_some, eUn_at, k1_some, kVal_some, kBl_some, kEq_at, kBlN_some, kNe_at, kIn_at, kNotIn_at, kIx_at, ixO_tup, kLt_int, kLe_int, kGt_int, kGe_int, kLt_str, kLe_str, kGt_str, kGe_str, kIs_non, kIs_bl, kIs_int, kIs_str, kIs_tup, kIs_ref, kIsNot_non, kIsNot_bl, kIsNot_int, kIsNot_str, kIsNot_tup, kIsNot_ref, opAdd_int, opAdd_str, opSub_int, opMul_int, opDiv_int, opMod_int, opPow_int, opAnd_int, opOr_int, opNeg_int, eChain_at, kc1_some, kc2_some, kc3_true, kc3_false, kc4_some, tOf_at, kTru_some, kTru2_some, truD_non, truD_bl, truD_int, truD_tup, tAnd_at, kAnd_true, kAnd_false, tOr_at, kOr_true, kOr_false, tNot_at, kNot_some, tYes_at, eAnd_at, keAnd_some, keAnd2_true, keAnd2_false, eOr_at, keOr_some, keOr2_true, keOr2_false, eNot_at, keNot_some, keNot2_some, eIf_at, keIf_true, keIf_false, aNil_at, aCons_at, ka1_some, ka2_some, eTup_at, kTup_0, kTup_1, kTup_2, kTup_3, kTup_4, kTup_5, kTup_6, eLst_at, kLst_0, kLst_1, kLst_2, kLst_3, kLst_4, eDic0_at, eCall_at, kCall_some, o1_at, isiO_at, kIsi_some, tyD_non, tyD_bl, tyD_int, tyD_str, tyD_tup, eBM_at, kbm1_some, kbm2_some, eSl_at, ks2_some, ks3_some, ks4_some, oNone_at, oSome_at, kSome_int, slO_str, sSeq_at, kSeq_nx, kSeq_rt, kSeq_bk, kSeq_ct, sNext_at, sBreak_at, sCont_at, sRetN_at, sRet_at, kRet_some, sExpr_at, kExpr_some, sSet_at, kSet_some, sIf_at, kIf_true, kIf_false, sPar2_k, kPar2_some, sPar3_k, kPar3_some, sAsg_at, kAsg_some, kAsg2_some, mName_at, mTup_2, mTup_3, mCons_at, kmCons_some, mNil_at, sPut_at, kp1_some, kp2_some, kp3_some, kp4_some, kFn_rt, kFn_nx, mkFn_0, mkFn_1, mkFn_2, mkFn_3, mkFn_4, mkFn_5, sWhile_at, List.getElem?_cons_zero, List.getElem?_cons_succ, List.set_cons_zero, List.set_cons_succ, List.replicate_succ, List.replicate_zero, Nat.reduceSub, Bool.not_true, Bool.not_false, ite_true, ite_false, if_true, if_false, reduceCtorEq, fldM_at, sFldM_at, kSF1_some, kSF2_some, kSF3_some, sFldAddM_at, kSA1_some, kSA2_int, eMake_at, kMk1_some, kMk2_some, isCM_at, isCO_non, eGet1_at, kG12_some, kG13_some, eGet2_at, kG22_some, kG23_some, eCallD_at, kCallD_some, eKdx_at, kKdx_some, kIsB_at, kEqE_at, kNeE_at, kInN_at, minF_at, dictF_at, atI0, atI1, eq_str, ixO_tup, lenO_tup, mTup_2, List.cons.injEq, Nat.reduceEqDiff, decide_false, decide_true, and_false, and_true, false_and, true_and, Bool.or_false, Bool.or_true, Bool.true_or, Bool.false_or, Bool.and_true, Bool.and_false, Bool.false_and, Bool.true_and, eReprC_at, kRep2_some, kRep3_some, Int.reduceLE, Int.reduceLT, ln, c1, decide_true, x0, d35, -List.cons.injEq]
    · rw [decide_eq_false h35] at d35
      have ht : tW_words_of_1 [some (.str (pre ++ c :: r)), some (.ref p), some (.int (pre.length : Nat)), x3] st = some (true, st) := by
        simp only [tW_words_of_1, eVar_at, kVar_some, eC_at, eBin_at, k2_some, k3_some, eUn_at, k1_some, kVal_some, kBl_some, kEq_at, kBlN_some, kNe_at, kIn_at, kNotIn_at, kIx_at, ixO_tup, kLt_int, kLe_int, kGt_int, kGe_int, kLt_str, kLe_str, kGt_str, kGe_str, kIs_non, kIs_bl, kIs_int, kIs_str, kIs_tup, kIs_ref, kIsNot_non, kIsNot_bl, kIsNot_int, kIsNot_str, kIsNot_tup, kIsNot_ref, opAdd_int, opAdd_str, opSub_int, opMul_int, opDiv_int, opMod_int, opPow_int, opAnd_int, opOr_int, opNeg_int, eChain_at, kc1_some, kc2_some, kc3_true, kc3_false, kc4_some, tOf_at, kTru_some, kTru2_some, truD_non, truD_bl, truD_int, truD_tup, tAnd_at, kAnd_true, kAnd_false, tOr_at, kOr_true, kOr_false, tNot_at, kNot_some, tYes_at, eAnd_at, keAnd_some, keAnd2_true, keAnd2_false, eOr_at, keOr_some, keOr2_true, keOr2_false, eNot_at, keNot_some, keNot2_some, eIf_at, keIf_true, keIf_false, aNil_at, aCons_at, ka1_some, ka2_some, eTup_at, kTup_0, kTup_1, kTup_2, kTup_3, kTup_4, kTup_5, kTup_6, eLst_at, kLst_0, kLst_1, kLst_2, kLst_3, kLst_4, eDic0_at, eCall_at, kCall_some, o1_at, isiO_at, kIsi_some, tyD_non, tyD_bl, tyD_int, tyD_str, tyD_tup, eBM_at, kbm1_some, kbm2_some, eSl_at, ks2_some, ks3_some, ks4_some, oNone_at, oSome_at, kSome_int, slO_str, sSeq_at, kSeq_nx, kSeq_rt, kSeq_bk, kSeq_ct, sNext_at, sBreak_at, sCont_at, sRetN_at, sRet_at, kRet_some, sExpr_at, kExpr_some, sSet_at, kSet_some, sIf_at, kIf_true, kIf_false, sPar2_k, kPar2_some, sPar3_k, kPar3_some, sAsg_at, kAsg_some, kAsg2_some, mName_at, mTup_2, mTup_3, mCons_at, kmCons_some, mNil_at, sPut_at, kp1_some, kp2_some, kp3_some, kp4_some, kFn_rt, kFn_nx, mkFn_0, mkFn_1, mkFn_2, mkFn_3, mkFn_4, mkFn_5, sWhile_at, List.getElem?_cons_zero, List.getElem?_cons_succ, List.set_cons_zero, List.set_cons_succ, List.replicate_succ, List.replicate_zero, Nat.reduceSub, Bool.not_true, Bool.not_false, ite_true, ite_false, if_true, if_false, reduceCtorEq, fldM_at, sFldM_at, kSF1_some, kSF2_some, kSF3_some, sFldAddM_at, kSA1_some, kSA2_int, eMake_at, kMk1_some, kMk2_some, isCM_at, isCO_non, eGet1_at, kG12_some, kG13_some, eGet2_at, kG22_some, kG23_some, eCallD_at, kCallD_some, eKdx_at, kKdx_some, kIsB_at, kEqE_at, kNeE_at, kInN_at, minF_at, dictF_at, atI0, atI1, eq_str, ixO_tup, lenO_tup, mTup_2, List.cons.injEq, Nat.reduceEqDiff, decide_false, decide_true, and_false, and_true, false_and, true_and, Bool.or_false, Bool.or_true, Bool.true_or, Bool.false_or, Bool.and_true, Bool.and_false, Bool.false_and, Bool.true_and, eReprC_at, kRep2_some, kRep3_some, Int.reduceLE, Int.reduceLT, ln, c1, decide_true, x0, d35, -List.cons.injEq]
      by_cases h32 : c = 32
      · rw [decide_eq_true h32] at d32
        have el : ((pre ++ [c]).length : Int) = (pre.length : Int) + 1 := by simp
        have hu : uW_words_of_2 [some (.str (pre ++ c :: r)), some (.ref p), some (.int (pre.length : Nat)), x3] st = some (.nx, [some (.str (pre ++ c :: r)), some (.ref p), some (.int ((pre ++ [c]).length : Nat)), x3], st) := by
          simp only [uW_words_of_2, eVar_at, kVar_some, eC_at, eBin_at, k2_some, k3_some, eUn_at, k1_some, kVal_some, kBl_some, kEq_at, kBlN_some, kNe_at, kIn_at, kNotIn_at, kIx_at, ixO_tup, kLt_int, kLe_int, kGt_int, kGe_int, kLt_str, kLe_str, kGt_str, kGe_str, kIs_non, kIs_bl, kIs_int, kIs_str, kIs_tup, kIs_ref, kIsNot_non, kIsNot_bl, kIsNot_int, kIsNot_str, kIsNot_tup, kIsNot_ref, opAdd_int, opAdd_str, opSub_int, opMul_int, opDiv_int, opMod_int, opPow_int, opAnd_int, opOr_int, opNeg_int, eChain_at, kc1_some, kc2_some, kc3_true, kc3_false, kc4_some, tOf_at, kTru_some, kTru2_some, truD_non, truD_bl, truD_int, truD_tup, tAnd_at, kAnd_true, kAnd_false, tOr_at, kOr_true, kOr_false, tNot_at, kNot_some, tYes_at, eAnd_at, keAnd_some, keAnd2_true, keAnd2_false, eOr_at, keOr_some, keOr2_true, keOr2_false, eNot_at, keNot_some, keNot2_some, eIf_at, keIf_true, keIf_false, aNil_at, aCons_at, ka1_some, ka2_some, eTup_at, kTup_0, kTup_1, kTup_2, kTup_3, kTup_4, kTup_5, kTup_6, eLst_at, kLst_0, kLst_1, kLst_2, kLst_3, kLst_4, eDic0_at, eCall_at, kCall_some, o1_at, isiO_at, kIsi_some, tyD_non, tyD_bl, tyD_int, tyD_str, tyD_tup, eBM_at, kbm1_some, kbm2_some, eSl_at, ks2_some, ks3_some, ks4_some, oNone_at, oSome_at, kSome_int, slO_str, sSeq_at, kSeq_nx, kSeq_rt, kSeq_bk, kSeq_ct, sNext_at, sBreak_at, sCont_at, sRetN_at, sRet_at, kRet_some, sExpr_at, kExpr_some, sSet_at, kSet_some, sIf_at, kIf_true, kIf_false, sPar2_k, kPar2_some, sPar3_k, kPar3_some, sAsg_at, kAsg_some, kAsg2_some, mName_at, mTup_2, mTup_3, mCons_at, kmCons_some, mNil_at, sPut_at, kp1_some, kp2_some, kp3_some, kp4_some, kFn_rt, kFn_nx, mkFn_0, mkFn_1, mkFn_2, mkFn_3, mkFn_4, mkFn_5, sWhile_at, List.getElem?_cons_zero, List.getElem?_cons_succ, List.set_cons_zero, List.set_cons_succ, List.replicate_succ, List.replicate_zero, Nat.reduceSub, Bool.not_true, Bool.not_false, ite_true, ite_false, if_true, if_false, reduceCtorEq, fldM_at, sFldM_at, kSF1_some, kSF2_some, kSF3_some, sFldAddM_at, kSA1_some, kSA2_int, eMake_at, kMk1_some, kMk2_some, isCM_at, isCO_non, eGet1_at, kG12_some, kG13_some, eGet2_at, kG22_some, kG23_some, eCallD_at, kCallD_some, eKdx_at, kKdx_some, kIsB_at, kEqE_at, kNeE_at, kInN_at, minF_at, dictF_at, atI0, atI1, eq_str, ixO_tup, lenO_tup, mTup_2, List.cons.injEq, Nat.reduceEqDiff, decide_false, decide_true, and_false, and_true, false_and, true_and, Bool.or_false, Bool.or_true, Bool.true_or, Bool.false_or, Bool.and_true, Bool.and_false, Bool.false_and, Bool.true_and, eReprC_at, kRep2_some, kRep3_some, Int.reduceLE, Int.reduceLT, x0, d32, el, -List.cons.injEq]
        have ih := wo_loop p n r (pre ++ [c]) found st x3 (by omega) (by rw [List.append_assoc]; exact hl) hp (by omega)
        rw [List.append_assoc] at ih
        obtain ⟨m, st', hm, ho, hh⟩ := ih
        refine ⟨m + 1, st', by rw [List.length_cons]; omega, ho, ?_⟩
        have ew : wds (n + 1) (c :: r) = wds n r := by
          conv => lhs; unfold wds
          rw [if_neg h35, if_pos h32]
        rw [ew]
        rcases hh with ⟨ws, y2, y3, e1, e2, e3, e4⟩ | ⟨e1, ρ', e2⟩
        · refine .inl ⟨ws, y2, y3, e1, fun k => ?_, e3, by rw [List.length_cons]; omega⟩
          rw [show m + 1 + k = m + k + 1 by omega, loopW_go ht hu]
          exact e2 k
        · refine .inr ⟨e1, ρ', fun k => ?_⟩
          rw [show m + 1 + k = m + k + 1 by omega, loopW_go ht hu]
          exact e2 k
      · rw [decide_eq_false h32] at d32
        obtain ⟨g, wa⟩ := word_at pre r c hl st
        have ew : wds (n + 1) (c :: r) = match word1 c r with
            | none => none
            | some (w, k) => (wds n ((c :: r).drop k)).map fun ws => w :: ws := by
          conv => lhs; unfold wds
          rw [if_neg h35, if_neg h32]
        cases hw : word1 c r with
        | none =>
          rw [hw] at wa ew
          have wa' : F_word_at [.str (pre ++ c :: r), .int (pre.length : Nat)] st = some (.non, st ++ g) := wa
          refine ⟨1, st ++ g, by rw [List.length_cons]; omega, Only.grow, .inr ⟨ew, [some (.str (pre ++ c :: r)), some (.ref p), some (.int (pre.length : Nat)), some .non], fun k => ?_⟩⟩
          rw [Nat.add_comm 1 k]
          refine loopW_rt ht ?_
          simp only [uW_words_of_2, eVar_at, kVar_some, eC_at, eBin_at, k2_some, k3_some, eUn_at, k1_some, kVal_some, kBl_some, kEq_at, kBlN_some, kNe_at, kIn_at, kNotIn_at, kIx_at, ixO_tup, kLt_int, kLe_int, kGt_int, kGe_int, kLt_str, kLe_str, kGt_str, kGe_str, kIs_non, kIs_bl, kIs_int, kIs_str, kIs_tup, kIs_ref, kIsNot_non, kIsNot_bl, kIsNot_int, kIsNot_str, kIsNot_tup, kIsNot_ref, opAdd_int, opAdd_str, opSub_int, opMul_int, opDiv_int, opMod_int, opPow_int, opAnd_int, opOr_int, opNeg_int, eChain_at, kc1_some, kc2_some, kc3_true, kc3_false, kc4_some, tOf_at, kTru_some, kTru2_some, truD_non, truD_bl, truD_int, truD_tup, tAnd_at, kAnd_true, kAnd_false, tOr_at, kOr_true, kOr_false, tNot_at, kNot_some, tYes_at, eAnd_at, keAnd_some, keAnd2_true, keAnd2_false, eOr_at, keOr_some, keOr2_true, keOr2_false, eNot_at, keNot_some, keNot2_some, eIf_at, keIf_true, keIf_false, aNil_at, aCons_at, ka1_some, ka2_some, eTup_at, kTup_0, kTup_1, kTup_2, kTup_3, kTup_4, kTup_5, kTup_6, eLst_at, kLst_0, kLst_1, kLst_2, kLst_3, kLst_4, eDic0_at, eCall_at, kCall_some, o1_at, isiO_at, kIsi_some, tyD_non, tyD_bl, tyD_int, tyD_str, tyD_tup, eBM_at, kbm1_some, kbm2_some, eSl_at, ks2_some, ks3_some, ks4_some, oNone_at, oSome_at, kSome_int, slO_str, sSeq_at, kSeq_nx, kSeq_rt, kSeq_bk, kSeq_ct, sNext_at, sBreak_at, sCont_at, sRetN_at, sRet_at, kRet_some, sExpr_at, kExpr_some, sSet_at, kSet_some, sIf_at, kIf_true, kIf_false, sPar2_k, kPar2_some, sPar3_k, kPar3_some, sAsg_at, kAsg_some, kAsg2_some, mName_at, mTup_2, mTup_3, mCons_at, kmCons_some, mNil_at, sPut_at, kp1_some, kp2_some, kp3_some, kp4_some, kFn_rt, kFn_nx, mkFn_0, mkFn_1, mkFn_2, mkFn_3, mkFn_4, mkFn_5, sWhile_at, List.getElem?_cons_zero, List.getElem?_cons_succ, List.set_cons_zero, List.set_cons_succ, List.replicate_succ, List.replicate_zero, Nat.reduceSub, Bool.not_true, Bool.not_false, ite_true, ite_false, if_true, if_false, reduceCtorEq, fldM_at, sFldM_at, kSF1_some, kSF2_some, kSF3_some, sFldAddM_at, kSA1_some, kSA2_int, eMake_at, kMk1_some, kMk2_some, isCM_at, isCO_non, eGet1_at, kG12_some, kG13_some, eGet2_at, kG22_some, kG23_some, eCallD_at, kCallD_some, eKdx_at, kKdx_some, kIsB_at, kEqE_at, kNeE_at, kInN_at, minF_at, dictF_at, atI0, atI1, eq_str, ixO_tup, lenO_tup, mTup_2, List.cons.injEq, Nat.reduceEqDiff, decide_false, decide_true, and_false, and_true, false_and, true_and, Bool.or_false, Bool.or_true, Bool.true_or, Bool.false_or, Bool.and_true, Bool.and_false, Bool.false_and, Bool.true_and, eReprC_at, kRep2_some, kRep3_some, Int.reduceLE, Int.reduceLT, x0, d32, wa', -List.cons.injEq]
        | some q =>
          obtain ⟨w, k0⟩ := q
          obtain ⟨k1, k2⟩ := word1_len hw
          rw [hw] at wa ew
          have ew2 : wds (n + 1) (c :: r) = (wds n ((c :: r).drop k0)).map fun ws => w :: ws := ew
          have wa' : F_word_at [.str (pre ++ c :: r), .int (pre.length : Nat)] st = some (.tup [w.d, .int ((pre.length + k0 : Nat) : Int)], st ++ g) := wa
          obtain ⟨a1, a2, a3⟩ := app_d (get_grow (g := g) hp) (by rw [List.length_map]; omega) w.d
          have a4 : ((st ++ g).set p (.lst (found.map Wo.d ++ [w.d])))[p]? = some (.lst ((found ++ [w]).map Wo.d)) := by
            rw [List.map_append]
            exact a3
          have hk : (pre ++ (c :: r).take k0).length = pre.length + k0 := by
            rw [List.length_append, List.length_take, List.length_cons]
            omega
          have er : pre ++ (c :: r).take k0 ++ (c :: r).drop k0 = pre ++ c :: r := by rw [List.append_assoc, List.take_append_drop]
          have hu : uW_words_of_2 [some (.str (pre ++ c :: r)), some (.ref p), some (.int (pre.length : Nat)), x3] st = some (.nx, [some (.str (pre ++ c :: r)), some (.ref p), some (.int ((pre.length + k0 : Nat) : Int)), some (.tup [w.d, .int ((pre.length + k0 : Nat) : Int)])], (st ++ g).set p (.lst (found.map Wo.d ++ [w.d]))) := by
            have is0 : isL st (.ref p) = true := (app_d hp (by rw [List.length_map]; omega) w.d).2.1
            simp only [uW_words_of_2, eVar_at, kVar_some, eC_at, eBin_at, k2_some, k3_some, eUn_at, k1_some, kVal_some, kBl_some, kEq_at, kBlN_some, kNe_at, kIn_at, kNotIn_at, kIx_at, ixO_tup, kLt_int, kLe_int, kGt_int, kGe_int, kLt_str, kLe_str, kGt_str, kGe_str, kIs_non, kIs_bl, kIs_int, kIs_str, kIs_tup, kIs_ref, kIsNot_non, kIsNot_bl, kIsNot_int, kIsNot_str, kIsNot_tup, kIsNot_ref, opAdd_int, opAdd_str, opSub_int, opMul_int, opDiv_int, opMod_int, opPow_int, opAnd_int, opOr_int, opNeg_int, eChain_at, kc1_some, kc2_some, kc3_true, kc3_false, kc4_some, tOf_at, kTru_some, kTru2_some, truD_non, truD_bl, truD_int, truD_tup, tAnd_at, kAnd_true, kAnd_false, tOr_at, kOr_true, kOr_false, tNot_at, kNot_some, tYes_at, eAnd_at, keAnd_some, keAnd2_true, keAnd2_false, eOr_at, keOr_some, keOr2_true, keOr2_false, eNot_at, keNot_some, keNot2_some, eIf_at, keIf_true, keIf_false, aNil_at, aCons_at, ka1_some, ka2_some, eTup_at, kTup_0, kTup_1, kTup_2, kTup_3, kTup_4, kTup_5, kTup_6, eLst_at, kLst_0, kLst_1, kLst_2, kLst_3, kLst_4, eDic0_at, eCall_at, kCall_some, o1_at, isiO_at, kIsi_some, tyD_non, tyD_bl, tyD_int, tyD_str, tyD_tup, eBM_at, kbm1_some, kbm2_some, eSl_at, ks2_some, ks3_some, ks4_some, oNone_at, oSome_at, kSome_int, slO_str, sSeq_at, kSeq_nx, kSeq_rt, kSeq_bk, kSeq_ct, sNext_at, sBreak_at, sCont_at, sRetN_at, sRet_at, kRet_some, sExpr_at, kExpr_some, sSet_at, kSet_some, sIf_at, kIf_true, kIf_false, sPar2_k, kPar2_some, sPar3_k, kPar3_some, sAsg_at, kAsg_some, kAsg2_some, mName_at, mTup_2, mTup_3, mCons_at, kmCons_some, mNil_at, sPut_at, kp1_some, kp2_some, kp3_some, kp4_some, kFn_rt, kFn_nx, mkFn_0, mkFn_1, mkFn_2, mkFn_3, mkFn_4, mkFn_5, sWhile_at, List.getElem?_cons_zero, List.getElem?_cons_succ, List.set_cons_zero, List.set_cons_succ, List.replicate_succ, List.replicate_zero, Nat.reduceSub, Bool.not_true, Bool.not_false, ite_true, ite_false, if_true, if_false, reduceCtorEq, fldM_at, sFldM_at, kSF1_some, kSF2_some, kSF3_some, sFldAddM_at, kSA1_some, kSA2_int, eMake_at, kMk1_some, kMk2_some, isCM_at, isCO_non, eGet1_at, kG12_some, kG13_some, eGet2_at, kG22_some, kG23_some, eCallD_at, kCallD_some, eKdx_at, kKdx_some, kIsB_at, kEqE_at, kNeE_at, kInN_at, minF_at, dictF_at, atI0, atI1, eq_str, ixO_tup, lenO_tup, mTup_2, List.cons.injEq, Nat.reduceEqDiff, decide_false, decide_true, and_false, and_true, false_and, true_and, Bool.or_false, Bool.or_true, Bool.true_or, Bool.false_or, Bool.and_true, Bool.and_false, Bool.false_and, Bool.true_and, eReprC_at, kRep2_some, kRep3_some, Int.reduceLE, Int.reduceLT, x0, d32, wa', is0, a2, a1, atI1, -List.cons.injEq]
          have dl : ((c :: r).drop k0).length = r.length + 1 - k0 := by rw [List.length_drop, List.length_cons]
          have ih := wo_loop p n ((c :: r).drop k0) (pre ++ (c :: r).take k0) (found ++ [w]) ((st ++ g).set p (.lst (found.map Wo.d ++ [w.d]))) (some (.tup [w.d, .int ((pre.length + k0 : Nat) : Int)])) (by omega) (by rw [er]; exact hl) a4 (by rw [List.length_append, List.length_singleton]; omega)
          rw [er, hk] at ih
          obtain ⟨m, st', hm, ho, hh⟩ := ih
          refine ⟨m + 1, st', by rw [List.length_cons]; omega, (Only.grow.trans (Only.set (.head _))).trans ho, ?_⟩
          rcases hh with ⟨ws, y2, y3, e1, e2, e3, e4⟩ | ⟨e1, ρ', e2⟩
          · refine .inl ⟨w :: ws, y2, y3, by rw [ew2, e1]; rfl, fun k => ?_, by rw [e3, List.append_assoc]; rfl, by rw [List.length_cons, List.length_cons]; omega⟩
            rw [show m + 1 + k = m + k + 1 by omega, loopW_go ht hu]
            exact e2 k
          · refine .inr ⟨by rw [ew2, e1]; rfl, ρ', fun k => ?_⟩
            rw [show m + 1 + k = m + k + 1 by omega, loopW_go ht hu]
            exact e2 k
def Tells (o : Option (List Wo)) (st st' : Sto) (d : D) : Prop := Only [] st st' ∧ ((∃ ws p, o = some ws ∧ d = .ref p ∧ st'[p]? = some (.lst (ws.map Wo.d)) ∧ st.length ≤ p ∧ ws.length ≤ 50000) ∨ (o = none ∧ d = .non))
theorem words_of {l : List Nat} (hl : l.length ≤ 50000) (st : Sto) : ∃ d st', F_words_of [.str l] st = some (d, st') ∧ Tells (wds (l.length + 1) l) st st' d := by
  obtain ⟨m, st', hm, ho, hh⟩ := wo_loop st.length (l.length + 1) l [] [] (st ++ [.lst []]) none (by omega) hl (at_end _ _ []) (by simpa using hl)
  have ho2 : Only [] st st' := fun i x hi e => by
    have il : i < st.length := (List.getElem?_eq_some_iff.mp e).1
    exact ho i x (fun z => by have := List.mem_singleton.mp z; omega) (get_grow e)
  rcases hh with ⟨ws, y2, y3, e1, e2, e3, e4⟩ | ⟨e1, ρ', e2⟩
  · have w := sWhile_of (t := tW_words_of_1) (u := uW_words_of_2) (n := m) (fuel_ok (by omega)) e2
    rw [List.nil_append] at w e3
    have w' : sWhile tW_words_of_1 uW_words_of_2 [some (.str l), some (.ref st.length), some (.int 0), none] (st ++ [.lst []]) = some (.nx, [some (.str l), some (.ref st.length), y2, y3], st') := w
    refine ⟨.ref st.length, st', ?_, ho2, .inl ⟨ws, st.length, e1, rfl, e3, Nat.le_refl _, by omega⟩⟩
    simp only [F_words_of, b_words_of, eVar_at, kVar_some, eC_at, eBin_at, k2_some, k3_some, eUn_at, k1_some, kVal_some, kBl_some, kEq_at, kBlN_some, kNe_at, kIn_at, kNotIn_at, kIx_at, ixO_tup, kLt_int, kLe_int, kGt_int, kGe_int, kLt_str, kLe_str, kGt_str, kGe_str, kIs_non, kIs_bl, kIs_int, kIs_str, kIs_tup, kIs_ref, kIsNot_non, kIsNot_bl, kIsNot_int, kIsNot_str, kIsNot_tup, kIsNot_ref, opAdd_int, opAdd_str, opSub_int, opMul_int, opDiv_int, opMod_int, opPow_int, opAnd_int, opOr_int, opNeg_int, eChain_at, kc1_some, kc2_some, kc3_true, kc3_false, kc4_some, tOf_at, kTru_some, kTru2_some, truD_non, truD_bl, truD_int, truD_tup, tAnd_at, kAnd_true, kAnd_false, tOr_at, kOr_true, kOr_false, tNot_at, kNot_some, tYes_at, eAnd_at, keAnd_some, keAnd2_true, keAnd2_false, eOr_at, keOr_some, keOr2_true, keOr2_false, eNot_at, keNot_some, keNot2_some, eIf_at, keIf_true, keIf_false, aNil_at, aCons_at, ka1_some, ka2_some, eTup_at, kTup_0, kTup_1, kTup_2, kTup_3, kTup_4, kTup_5, kTup_6, eLst_at, kLst_0, kLst_1, kLst_2, kLst_3, kLst_4, eDic0_at, eCall_at, kCall_some, o1_at, isiO_at, kIsi_some, tyD_non, tyD_bl, tyD_int, tyD_str, tyD_tup, eBM_at, kbm1_some, kbm2_some, eSl_at, ks2_some, ks3_some, ks4_some, oNone_at, oSome_at, kSome_int, slO_str, sSeq_at, kSeq_nx, kSeq_rt, kSeq_bk, kSeq_ct, sNext_at, sBreak_at, sCont_at, sRetN_at, sRet_at, kRet_some, sExpr_at, kExpr_some, sSet_at, kSet_some, sIf_at, kIf_true, kIf_false, sPar2_k, kPar2_some, sPar3_k, kPar3_some, sAsg_at, kAsg_some, kAsg2_some, mName_at, mTup_2, mTup_3, mCons_at, kmCons_some, mNil_at, sPut_at, kp1_some, kp2_some, kp3_some, kp4_some, kFn_rt, kFn_nx, mkFn_0, mkFn_1, mkFn_2, mkFn_3, mkFn_4, mkFn_5, sWhile_at, List.getElem?_cons_zero, List.getElem?_cons_succ, List.set_cons_zero, List.set_cons_succ, List.replicate_succ, List.replicate_zero, Nat.reduceSub, Bool.not_true, Bool.not_false, ite_true, ite_false, if_true, if_false, reduceCtorEq, fldM_at, sFldM_at, kSF1_some, kSF2_some, kSF3_some, sFldAddM_at, kSA1_some, kSA2_int, eMake_at, kMk1_some, kMk2_some, isCM_at, isCO_non, eGet1_at, kG12_some, kG13_some, eGet2_at, kG22_some, kG23_some, eCallD_at, kCallD_some, eKdx_at, kKdx_some, kIsB_at, kEqE_at, kNeE_at, kInN_at, minF_at, dictF_at, atI0, atI1, eq_str, ixO_tup, lenO_tup, mTup_2, List.cons.injEq, Nat.reduceEqDiff, decide_false, decide_true, and_false, and_true, false_and, true_and, Bool.or_false, Bool.or_true, Bool.true_or, Bool.false_or, Bool.and_true, Bool.and_false, Bool.false_and, Bool.true_and, eReprC_at, kRep2_some, kRep3_some, Int.reduceLE, Int.reduceLT, w', -sWhile_at]
  · have w := sWhile_of (t := tW_words_of_1) (u := uW_words_of_2) (n := m) (fuel_ok (by omega)) e2
    rw [List.nil_append] at w
    have w' : sWhile tW_words_of_1 uW_words_of_2 [some (.str l), some (.ref st.length), some (.int 0), none] (st ++ [.lst []]) = some (.rt .non, ρ', st') := w
    refine ⟨.non, st', ?_, ho2, .inr ⟨e1, rfl⟩⟩
    simp only [F_words_of, b_words_of, eVar_at, kVar_some, eC_at, eBin_at, k2_some, k3_some, eUn_at, k1_some, kVal_some, kBl_some, kEq_at, kBlN_some, kNe_at, kIn_at, kNotIn_at, kIx_at, ixO_tup, kLt_int, kLe_int, kGt_int, kGe_int, kLt_str, kLe_str, kGt_str, kGe_str, kIs_non, kIs_bl, kIs_int, kIs_str, kIs_tup, kIs_ref, kIsNot_non, kIsNot_bl, kIsNot_int, kIsNot_str, kIsNot_tup, kIsNot_ref, opAdd_int, opAdd_str, opSub_int, opMul_int, opDiv_int, opMod_int, opPow_int, opAnd_int, opOr_int, opNeg_int, eChain_at, kc1_some, kc2_some, kc3_true, kc3_false, kc4_some, tOf_at, kTru_some, kTru2_some, truD_non, truD_bl, truD_int, truD_tup, tAnd_at, kAnd_true, kAnd_false, tOr_at, kOr_true, kOr_false, tNot_at, kNot_some, tYes_at, eAnd_at, keAnd_some, keAnd2_true, keAnd2_false, eOr_at, keOr_some, keOr2_true, keOr2_false, eNot_at, keNot_some, keNot2_some, eIf_at, keIf_true, keIf_false, aNil_at, aCons_at, ka1_some, ka2_some, eTup_at, kTup_0, kTup_1, kTup_2, kTup_3, kTup_4, kTup_5, kTup_6, eLst_at, kLst_0, kLst_1, kLst_2, kLst_3, kLst_4, eDic0_at, eCall_at, kCall_some, o1_at, isiO_at, kIsi_some, tyD_non, tyD_bl, tyD_int, tyD_str, tyD_tup, eBM_at, kbm1_some, kbm2_some, eSl_at, ks2_some, ks3_some, ks4_some, oNone_at, oSome_at, kSome_int, slO_str, sSeq_at, kSeq_nx, kSeq_rt, kSeq_bk, kSeq_ct, sNext_at, sBreak_at, sCont_at, sRetN_at, sRet_at, kRet_some, sExpr_at, kExpr_some, sSet_at, kSet_some, sIf_at, kIf_true, kIf_false, sPar2_k, kPar2_some, sPar3_k, kPar3_some, sAsg_at, kAsg_some, kAsg2_some, mName_at, mTup_2, mTup_3, mCons_at, kmCons_some, mNil_at, sPut_at, kp1_some, kp2_some, kp3_some, kp4_some, kFn_rt, kFn_nx, mkFn_0, mkFn_1, mkFn_2, mkFn_3, mkFn_4, mkFn_5, sWhile_at, List.getElem?_cons_zero, List.getElem?_cons_succ, List.set_cons_zero, List.set_cons_succ, List.replicate_succ, List.replicate_zero, Nat.reduceSub, Bool.not_true, Bool.not_false, ite_true, ite_false, if_true, if_false, reduceCtorEq, fldM_at, sFldM_at, kSF1_some, kSF2_some, kSF3_some, sFldAddM_at, kSA1_some, kSA2_int, eMake_at, kMk1_some, kMk2_some, isCM_at, isCO_non, eGet1_at, kG12_some, kG13_some, eGet2_at, kG22_some, kG23_some, eCallD_at, kCallD_some, eKdx_at, kKdx_some, kIsB_at, kEqE_at, kNeE_at, kInN_at, minF_at, dictF_at, atI0, atI1, eq_str, ixO_tup, lenO_tup, mTup_2, List.cons.injEq, Nat.reduceEqDiff, decide_false, decide_true, and_false, and_true, false_and, true_and, Bool.or_false, Bool.or_true, Bool.true_or, Bool.false_or, Bool.and_true, Bool.and_false, Bool.false_and, Bool.true_and, eReprC_at, kRep2_some, kRep3_some, Int.reduceLE, Int.reduceLT, w', -sWhile_at]
end Math

set_option maxRecDepth 100000
set_option maxHeartbeats 4000000
namespace Math
open MP Text PySem
theorem cut_hd {α : Type} (l : List α) (n : Nat) : cutG l none (some (n : Nat)) = l.take n := by
  unfold cutG
  rw [HT.sIx_nat]
  have : HT.sIx l.length 0 none = 0 := rfl
  rw [this, List.drop_zero, Nat.sub_zero]
  by_cases h : n ≤ l.length
  · rw [Nat.min_eq_left h]
  · rw [Nat.min_eq_right (by omega), List.take_length, List.take_of_length_le (by omega)]
theorem cut_tl {α : Type} (l : List α) (n : Nat) (h : n ≤ l.length) : cutG l (some (n : Nat)) none = l.drop n := by
  unfold cutG
  rw [HT.sIx_nat, Nat.min_eq_left h]
  have : HT.sIx l.length l.length none = l.length := rfl
  rw [this, List.take_of_length_le (by rw [List.length_drop]; omega)]
theorem aln_lf : ∀ c, c < 128 → Unicode.isAlnum c = decide (c ∈ LF) := by decide +kernel
theorem isalnum_one {c : Nat} (hc : c < 128) (st : Sto) : m0B Txt.isalnum (.str [c]) [] st = some (.bl (decide (c ∈ LF)), st) := by
  have e : Txt.isalnum (mkS [c]) = decide (c ∈ LF) := by
    rw [← aln_lf c hc]
    simp [Txt.isalnum, mkS, Str.length]
  show some (D.bl (Txt.isalnum (mkS [c])), st) = _
  rw [e]
theorem w_lf (c : Nat) : isW c = (decide (c ∈ LF) || decide (c = 95)) := by
  unfold isW
  rw [Bool.eq_iff_iff, Bool.or_eq_true]
  simp only [decide_eq_true_eq]
  have e : LFU = LF ++ [95] := rfl
  rw [e, List.mem_append, List.mem_singleton]
theorem lrun_loop (k : Nat) (st : Sto) (x0 x1 x4 x5 x6 x7 : Option D) : ∀ (suf pre : List Nat), (pre ++ suf).length ≤ 100000 → (∀ c ∈ suf, c < 128) → loopW tW_l_words_1 uW_l_words_2 ((suf.takeWhile isW).length + 1 + k) [x0, x1, some (.str (pre ++ suf)), some (.int (pre.length : Nat)), x4, x5, x6, x7] st = some (.nx, [x0, x1, some (.str (pre ++ suf)), some (.int ((pre.length + (suf.takeWhile isW).length : Nat) : Int)), x4, x5, x6, x7], st)
  | [], pre, hl, _ => by
    rw [List.takeWhile_nil, List.length_nil, Nat.zero_add, Nat.add_comm 1 k, Nat.add_zero]
    refine loopW_stop (st' := st) ?_
    have c : ¬ ((pre.length : Int) < ((pre ++ ([] : List Nat)).length : Int)) := by simp
    simp only [tW_l_words_1, eVar_at, kVar_some, eC_at, eBin_at, k2_some, k3_some, eUn_at, k1_some, kVal_some, kBl_some, kEq_at, kBlN_some, kNe_at, kIn_at, kNotIn_at, kIx_at, ixO_tup, kLt_int, kLe_int, kGt_int, kGe_int, kLt_str, kLe_str, kGt_str, kGe_str, kIs_non, kIs_bl, kIs_int, kIs_str, kIs_tup, kIs_ref, kIsNot_non, kIsNot_bl, kIsNot_int, kIsNot_str, kIsNot_tup, kIsNot_ref, opAdd_int, opAdd_str, opSub_int, opMul_int, opDiv_int, opMod_int, opPow_int, opAnd_int, opOr_int, opNeg_int, eChain_at, kc1_some, kc2_some, kc3_true, kc3_false, kc4_some, tOf_at, kTru_some, kTru2_some, truD_non, truD_bl, truD_int, truD_tup, tAnd_at, kAnd_true, kAnd_false, tOr_at, kOr_true, kOr_false, tNot_at, kNot_some, tYes_at, eAnd_at, keAnd_some, keAnd2_true, keAnd2_false, eOr_at, keOr_some, keOr2_true, keOr2_false, eNot_at, keNot_some, keNot2_some, eIf_at, keIf_true, keIf_false, aNil_at, aCons_at, ka1_some, ka2_some, eTup_at, kTup_0, kTup_1, kTup_2, kTup_3, kTup_4, kTup_5, kTup_6, eLst_at, kLst_0, kLst_1, kLst_2, kLst_3, kLst_4, eDic0_at, eCall_at, kCall_some, o1_at, isiO_at, kIsi_some, tyD_non, tyD_bl, tyD_int, tyD_str, tyD_tup, eBM_at, kbm1_some, kbm2_some, eSl_at, ks2_some, ks3_some, ks4_some, oNone_at, oSome_at, kSome_int, slO_str, sSeq_at, kSeq_nx, kSeq_rt, kSeq_bk, kSeq_ct, sNext_at, sBreak_at, sCont_at, sRetN_at, sRet_at, kRet_some, sExpr_at, kExpr_some, sSet_at, kSet_some, sIf_at, kIf_true, kIf_false, sPar2_k, kPar2_some, sPar3_k, kPar3_some, sAsg_at, kAsg_some, kAsg2_some, mName_at, mTup_2, mTup_3, mCons_at, kmCons_some, mNil_at, sPut_at, kp1_some, kp2_some, kp3_some, kp4_some, kFn_rt, kFn_nx, mkFn_0, mkFn_1, mkFn_2, mkFn_3, mkFn_4, mkFn_5, sWhile_at, List.getElem?_cons_zero, List.getElem?_cons_succ, List.set_cons_zero, List.set_cons_succ, List.replicate_succ, List.replicate_zero, Nat.reduceSub, Bool.not_true, Bool.not_false, ite_true, ite_false, if_true, if_false, reduceCtorEq, fldM_at, sFldM_at, kSF1_some, kSF2_some, kSF3_some, sFldAddM_at, kSA1_some, kSA2_int, eMake_at, kMk1_some, kMk2_some, isCM_at, isCO_non, eGet1_at, kG12_some, kG13_some, eGet2_at, kG22_some, kG23_some, eCallD_at, kCallD_some, eKdx_at, kKdx_some, kIsB_at, kEqE_at, kNeE_at, kInN_at, minF_at, dictF_at, atI0, atI1, eq_str, ixO_tup, lenO_tup, mTup_2, List.cons.injEq, Nat.reduceEqDiff, decide_false, decide_true, and_false, and_true, false_and, true_and, Bool.or_false, Bool.or_true, Bool.true_or, Bool.false_or, Bool.and_true, Bool.and_false, Bool.false_and, Bool.true_and, eReprC_at, kRep2_some, kRep3_some, Int.reduceLE, Int.reduceLT, len_str _ hl, c, decide_false]
  | c :: r, pre, hl, ha => by
    have h1 := ix_pre pre c r hl st
    have c1 : (pre.length : Int) < ((pre ++ c :: r).length : Int) := by
      rw [List.length_append, List.length_cons]
      omega
    have h2 := isalnum_one (ha c (.head _)) st
    have d95 := dec_one c 95
    have iss : isS st (.str [c]) = true := rfl
    have ht : tW_l_words_1 [x0, x1, some (.str (pre ++ c :: r)), some (.int (pre.length : Nat)), x4, x5, x6, x7] st = some (isW c, st) := by
      rw [w_lf]
      cases hq : decide (c ∈ LF) with
      | true =>
        rw [hq] at h2
        simp only [tW_l_words_1, eVar_at, kVar_some, eC_at, eBin_at, k2_some, k3_some, eUn_at, k1_some, kVal_some, kBl_some, kEq_at, kBlN_some, kNe_at, kIn_at, kNotIn_at, kIx_at, ixO_tup, kLt_int, kLe_int, kGt_int, kGe_int, kLt_str, kLe_str, kGt_str, kGe_str, kIs_non, kIs_bl, kIs_int, kIs_str, kIs_tup, kIs_ref, kIsNot_non, kIsNot_bl, kIsNot_int, kIsNot_str, kIsNot_tup, kIsNot_ref, opAdd_int, opAdd_str, opSub_int, opMul_int, opDiv_int, opMod_int, opPow_int, opAnd_int, opOr_int, opNeg_int, eChain_at, kc1_some, kc2_some, kc3_true, kc3_false, kc4_some, tOf_at, kTru_some, kTru2_some, truD_non, truD_bl, truD_int, truD_tup, tAnd_at, kAnd_true, kAnd_false, tOr_at, kOr_true, kOr_false, tNot_at, kNot_some, tYes_at, eAnd_at, keAnd_some, keAnd2_true, keAnd2_false, eOr_at, keOr_some, keOr2_true, keOr2_false, eNot_at, keNot_some, keNot2_some, eIf_at, keIf_true, keIf_false, aNil_at, aCons_at, ka1_some, ka2_some, eTup_at, kTup_0, kTup_1, kTup_2, kTup_3, kTup_4, kTup_5, kTup_6, eLst_at, kLst_0, kLst_1, kLst_2, kLst_3, kLst_4, eDic0_at, eCall_at, kCall_some, o1_at, isiO_at, kIsi_some, tyD_non, tyD_bl, tyD_int, tyD_str, tyD_tup, eBM_at, kbm1_some, kbm2_some, eSl_at, ks2_some, ks3_some, ks4_some, oNone_at, oSome_at, kSome_int, slO_str, sSeq_at, kSeq_nx, kSeq_rt, kSeq_bk, kSeq_ct, sNext_at, sBreak_at, sCont_at, sRetN_at, sRet_at, kRet_some, sExpr_at, kExpr_some, sSet_at, kSet_some, sIf_at, kIf_true, kIf_false, sPar2_k, kPar2_some, sPar3_k, kPar3_some, sAsg_at, kAsg_some, kAsg2_some, mName_at, mTup_2, mTup_3, mCons_at, kmCons_some, mNil_at, sPut_at, kp1_some, kp2_some, kp3_some, kp4_some, kFn_rt, kFn_nx, mkFn_0, mkFn_1, mkFn_2, mkFn_3, mkFn_4, mkFn_5, sWhile_at, List.getElem?_cons_zero, List.getElem?_cons_succ, List.set_cons_zero, List.set_cons_succ, List.replicate_succ, List.replicate_zero, Nat.reduceSub, Bool.not_true, Bool.not_false, ite_true, ite_false, if_true, if_false, reduceCtorEq, fldM_at, sFldM_at, kSF1_some, kSF2_some, kSF3_some, sFldAddM_at, kSA1_some, kSA2_int, eMake_at, kMk1_some, kMk2_some, isCM_at, isCO_non, eGet1_at, kG12_some, kG13_some, eGet2_at, kG22_some, kG23_some, eCallD_at, kCallD_some, eKdx_at, kKdx_some, kIsB_at, kEqE_at, kNeE_at, kInN_at, minF_at, dictF_at, atI0, atI1, eq_str, ixO_tup, lenO_tup, mTup_2, List.cons.injEq, Nat.reduceEqDiff, decide_false, decide_true, and_false, and_true, false_and, true_and, Bool.or_false, Bool.or_true, Bool.true_or, Bool.false_or, Bool.and_true, Bool.and_false, Bool.false_and, Bool.true_and, eReprC_at, kRep2_some, kRep3_some, Int.reduceLE, Int.reduceLT, len_str _ hl, c1, decide_true, h1, iss, h2]
      | false =>
        rw [hq] at h2
        simp only [tW_l_words_1, eVar_at, kVar_some, eC_at, eBin_at, k2_some, k3_some, eUn_at, k1_some, kVal_some, kBl_some, kEq_at, kBlN_some, kNe_at, kIn_at, kNotIn_at, kIx_at, ixO_tup, kLt_int, kLe_int, kGt_int, kGe_int, kLt_str, kLe_str, kGt_str, kGe_str, kIs_non, kIs_bl, kIs_int, kIs_str, kIs_tup, kIs_ref, kIsNot_non, kIsNot_bl, kIsNot_int, kIsNot_str, kIsNot_tup, kIsNot_ref, opAdd_int, opAdd_str, opSub_int, opMul_int, opDiv_int, opMod_int, opPow_int, opAnd_int, opOr_int, opNeg_int, eChain_at, kc1_some, kc2_some, kc3_true, kc3_false, kc4_some, tOf_at, kTru_some, kTru2_some, truD_non, truD_bl, truD_int, truD_tup, tAnd_at, kAnd_true, kAnd_false, tOr_at, kOr_true, kOr_false, tNot_at, kNot_some, tYes_at, eAnd_at, keAnd_some, keAnd2_true, keAnd2_false, eOr_at, keOr_some, keOr2_true, keOr2_false, eNot_at, keNot_some, keNot2_some, eIf_at, keIf_true, keIf_false, aNil_at, aCons_at, ka1_some, ka2_some, eTup_at, kTup_0, kTup_1, kTup_2, kTup_3, kTup_4, kTup_5, kTup_6, eLst_at, kLst_0, kLst_1, kLst_2, kLst_3, kLst_4, eDic0_at, eCall_at, kCall_some, o1_at, isiO_at, kIsi_some, tyD_non, tyD_bl, tyD_int, tyD_str, tyD_tup, eBM_at, kbm1_some, kbm2_some, eSl_at, ks2_some, ks3_some, ks4_some, oNone_at, oSome_at, kSome_int, slO_str, sSeq_at, kSeq_nx, kSeq_rt, kSeq_bk, kSeq_ct, sNext_at, sBreak_at, sCont_at, sRetN_at, sRet_at, kRet_some, sExpr_at, kExpr_some, sSet_at, kSet_some, sIf_at, kIf_true, kIf_false, sPar2_k, kPar2_some, sPar3_k, kPar3_some, sAsg_at, kAsg_some, kAsg2_some, mName_at, mTup_2, mTup_3, mCons_at, kmCons_some, mNil_at, sPut_at, kp1_some, kp2_some, kp3_some, kp4_some, kFn_rt, kFn_nx, mkFn_0, mkFn_1, mkFn_2, mkFn_3, mkFn_4, mkFn_5, sWhile_at, List.getElem?_cons_zero, List.getElem?_cons_succ, List.set_cons_zero, List.set_cons_succ, List.replicate_succ, List.replicate_zero, Nat.reduceSub, Bool.not_true, Bool.not_false, ite_true, ite_false, if_true, if_false, reduceCtorEq, fldM_at, sFldM_at, kSF1_some, kSF2_some, kSF3_some, sFldAddM_at, kSA1_some, kSA2_int, eMake_at, kMk1_some, kMk2_some, isCM_at, isCO_non, eGet1_at, kG12_some, kG13_some, eGet2_at, kG22_some, kG23_some, eCallD_at, kCallD_some, eKdx_at, kKdx_some, kIsB_at, kEqE_at, kNeE_at, kInN_at, minF_at, dictF_at, atI0, atI1, eq_str, ixO_tup, lenO_tup, mTup_2, List.cons.injEq, Nat.reduceEqDiff, decide_false, decide_true, and_false, and_true, false_and, true_and, Bool.or_false, Bool.or_true, Bool.true_or, Bool.false_or, Bool.and_true, Bool.and_false, Bool.false_and, Bool.true_and, eReprC_at, kRep2_some, kRep3_some, Int.reduceLE, Int.reduceLT, len_str _ hl, c1, decide_true, h1, iss, h2, d95, -List.cons.injEq]
    cases hc : isW c with
    | false =>
      rw [List.takeWhile_cons_of_neg (by rw [hc]; exact Bool.false_ne_true), List.length_nil, Nat.zero_add, Nat.add_comm 1 k, Nat.add_zero]
      rw [hc] at ht
      exact loopW_stop ht
    | true =>
      rw [hc] at ht
      rw [List.takeWhile_cons_of_pos hc, List.length_cons, show (r.takeWhile isW).length + 1 + 1 + k = (r.takeWhile isW).length + 1 + k + 1 by omega]
      have hu : uW_l_words_2 [x0, x1, some (.str (pre ++ c :: r)), some (.int (pre.length : Nat)), x4, x5, x6, x7] st = some (.nx, [x0, x1, some (.str (pre ++ c :: r)), some (.int ((pre ++ [c]).length : Nat)), x4, x5, x6, x7], st) := by
        have : ((pre ++ [c]).length : Int) = (pre.length : Int) + 1 := by simp
        simp only [uW_l_words_2, eVar_at, kVar_some, eC_at, eBin_at, k2_some, k3_some, eUn_at, k1_some, kVal_some, kBl_some, kEq_at, kBlN_some, kNe_at, kIn_at, kNotIn_at, kIx_at, ixO_tup, kLt_int, kLe_int, kGt_int, kGe_int, kLt_str, kLe_str, kGt_str, kGe_str, kIs_non, kIs_bl, kIs_int, kIs_str, kIs_tup, kIs_ref, kIsNot_non, kIsNot_bl, kIsNot_int, kIsNot_str, kIsNot_tup, kIsNot_ref, opAdd_int, opAdd_str, opSub_int, opMul_int, opDiv_int, opMod_int, opPow_int, opAnd_int, opOr_int, opNeg_int, eChain_at, kc1_some, kc2_some, kc3_true, kc3_false, kc4_some, tOf_at, kTru_some, kTru2_some, truD_non, truD_bl, truD_int, truD_tup, tAnd_at, kAnd_true, kAnd_false, tOr_at, kOr_true, kOr_false, tNot_at, kNot_some, tYes_at, eAnd_at, keAnd_some, keAnd2_true, keAnd2_false, eOr_at, keOr_some, keOr2_true, keOr2_false, eNot_at, keNot_some, keNot2_some, eIf_at, keIf_true, keIf_false, aNil_at, aCons_at, ka1_some, ka2_some, eTup_at, kTup_0, kTup_1, kTup_2, kTup_3, kTup_4, kTup_5, kTup_6, eLst_at, kLst_0, kLst_1, kLst_2, kLst_3, kLst_4, eDic0_at, eCall_at, kCall_some, o1_at, isiO_at, kIsi_some, tyD_non, tyD_bl, tyD_int, tyD_str, tyD_tup, eBM_at, kbm1_some, kbm2_some, eSl_at, ks2_some, ks3_some, ks4_some, oNone_at, oSome_at, kSome_int, slO_str, sSeq_at, kSeq_nx, kSeq_rt, kSeq_bk, kSeq_ct, sNext_at, sBreak_at, sCont_at, sRetN_at, sRet_at, kRet_some, sExpr_at, kExpr_some, sSet_at, kSet_some, sIf_at, kIf_true, kIf_false, sPar2_k, kPar2_some, sPar3_k, kPar3_some, sAsg_at, kAsg_some, kAsg2_some, mName_at, mTup_2, mTup_3, mCons_at, kmCons_some, mNil_at, sPut_at, kp1_some, kp2_some, kp3_some, kp4_some, kFn_rt, kFn_nx, mkFn_0, mkFn_1, mkFn_2, mkFn_3, mkFn_4, mkFn_5, sWhile_at, List.getElem?_cons_zero, List.getElem?_cons_succ, List.set_cons_zero, List.set_cons_succ, List.replicate_succ, List.replicate_zero, Nat.reduceSub, Bool.not_true, Bool.not_false, ite_true, ite_false, if_true, if_false, reduceCtorEq, fldM_at, sFldM_at, kSF1_some, kSF2_some, kSF3_some, sFldAddM_at, kSA1_some, kSA2_int, eMake_at, kMk1_some, kMk2_some, isCM_at, isCO_non, eGet1_at, kG12_some, kG13_some, eGet2_at, kG22_some, kG23_some, eCallD_at, kCallD_some, eKdx_at, kKdx_some, kIsB_at, kEqE_at, kNeE_at, kInN_at, minF_at, dictF_at, atI0, atI1, eq_str, ixO_tup, lenO_tup, mTup_2, List.cons.injEq, Nat.reduceEqDiff, decide_false, decide_true, and_false, and_true, false_and, true_and, Bool.or_false, Bool.or_true, Bool.true_or, Bool.false_or, Bool.and_true, Bool.and_false, Bool.false_and, Bool.true_and, eReprC_at, kRep2_some, kRep3_some, Int.reduceLE, Int.reduceLT, this]
      rw [loopW_go ht hu]
      have ih := lrun_loop k st x0 x1 x4 x5 x6 x7 r (pre ++ [c]) (by rw [List.append_assoc]; exact hl) (fun y hy => ha y (.tail _ hy))
      rw [List.append_assoc] at ih
      have e2 : (pre ++ [c]).length + (r.takeWhile isW).length = pre.length + ((r.takeWhile isW).length + 1) := by
        rw [List.length_append, List.length_singleton]
        omega
      rw [e2] at ih
      exact ih
theorem lrun_while (l : List Nat) (hl : l.length ≤ 50000) (ha : ∀ c ∈ l, c < 128) (st : Sto) (x0 x1 x4 x5 x6 x7 : Option D) : sWhile tW_l_words_1 uW_l_words_2 [x0, x1, some (.str l), some (.int 0), x4, x5, x6, x7] st = some (.nx, [x0, x1, some (.str l), some (.int ((l.takeWhile isW).length : Nat)), x4, x5, x6, x7], st) := by
  have t := tw_le l
  have w := sWhile_of (t := tW_l_words_1) (u := uW_l_words_2) (n := (l.takeWhile isW).length + 1) (ρ := [x0, x1, some (.str l), some (.int 0), x4, x5, x6, x7]) (st := st) (fuel_ok (by omega)) fun k => by
    have := lrun_loop k st x0 x1 x4 x5 x6 x7 l [] (by rw [List.nil_append]; omega) ha
    simp only [List.nil_append, List.length_nil, Nat.zero_add] at this
    exact this
  exact w
end Math

set_option maxRecDepth 100000
set_option maxHeartbeats 4000000
namespace Math
open MP Text PySem

theorem okS_128 {l : List Nat} (h : ∀ c ∈ l, c < 128) : okS l = true := okS_of fun c hc => by
  have := h c hc
  omega
theorem br_ok (c : Nat) (r : List Nat) (hl : (c :: r).length ≤ 50000) (ha : ∀ y ∈ c :: r, y < 128) (st : Sto) (x0 x1 x5 x6 x7 : Option D) : ∃ k y5 y6 y7 g, (sIf (tOf (eBin kGt (eVar 3) (eC (.int 0)))) (sSet 4 (eCall F_l_run (aCons (eSl (eVar 2) oNone (oSome (eVar 3))) aNil))) (sIf (tOf (eBin kEq (eBin kIx (eVar 2) (eC (.int 0))) (eC (.str [34])))) (sSeq (sAsg (eBM isS partM (eSl (eVar 2) (oSome (eC (.int 1))) oNone) (aCons (eC (.str [34])) aNil)) (mTup 3 (mCons (mName 5) (mCons (mName 6) (mCons (mName 7) mNil)))))
    (sSeq (sSet 3 (eBin opAdd (eCall (o1 lenO) (aCons (eVar 5) aNil)) (eC (.int 2))))
    (sIf (tAnd (tOf (eBin kNe (eVar 6) (eC (.str [])))) (tOf (eBin kLt (eCall (o1 lenO) (aCons (eVar 5) aNil)) (eC (.int 41))))) (sSet 4 (eTup (aCons (eC (.str [116, 101, 120, 116])) (aCons (eVar 5) aNil)))) sNext))) (sSeq (sSet 3 (eBin opAdd (eC (.int 1)) (eCall (o1 intO) (aCons (eBin (kIn false) (eSl (eVar 2) oNone (oSome (eC (.int 2)))) (eTup (aCons (eC (.str [47, 47])) (aCons (eC (.str [60, 61])) (aCons (eC (.str [62, 61])) (aCons (eC (.str [61, 61])) (aCons (eC (.str [33, 61])) (aCons (eC (.str [43, 61])) (aCons (eC (.str [45, 61])) (aCons (eC (.str [42, 61])) aNil)))))))))) aNil))))
    (sIf (tOr (tOf (eBin kEq (eVar 3) (eC (.int 2)))) (tOf (eBin (kIn false) (eBin kIx (eVar 2) (eC (.int 0))) (eC (.str [43, 45, 42, 38, 124, 60, 62, 61, 40, 41, 44, 46, 58]))))) (sSet 4 (eTup (aCons (eC (.str [109, 97, 114, 107])) (aCons (eSl (eVar 2) oNone (oSome (eVar 3))) aNil)))) sNext)))) [x0, x1, some (.str (c :: r)), some (.int (((c :: r).takeWhile isW).length : Nat)), some .non, x5, x6, x7] st = some (.nx, [x0, x1, some (.str (c :: r)), some (.int ((k : Nat) : Int)), some (dO ((word1 c r).map (·.1))), y5, y6, y7], st ++ g) ∧ ∀ q, word1 c r = some q → q.2 = k := by
  have i00 := fun s => ix_pre [] c r (by rw [List.nil_append]; omega) s
  have x0' : ∀ s, ixO (.str (c :: r)) (.int 0) s = some (.str [c]) := i00
  have lm : (c :: r).length ≤ LIM := lim1 (by omega)
  unfold word1
  cases hw : isW c with
  | true =>
    rw [List.takeWhile_cons_of_pos hw]
    have tl := tw_le r
    rw [List.length_cons] at hl
    have R : Run (c :: r.takeWhile isW) := ⟨by simp, fun x hx => by
      rcases List.mem_cons.mp hx with rfl | hx
      · exact hw
      · exact mem_tw hx, by rw [List.length_cons]; omega⟩
    obtain ⟨g, rw1⟩ := lrun_is R st
    have c1 : ((c :: r.takeWhile isW).length : Int) > 0 := by
      rw [List.length_cons]
      omega
    have ct := cut_hd (c :: r) (c :: r.takeWhile isW).length
    have ct2 : (c :: r).take (c :: r.takeWhile isW).length = c :: r.takeWhile isW := by
      rw [List.length_cons, List.take_succ_cons, tw_app]
    rw [ct2] at ct
    refine ⟨(c :: r.takeWhile isW).length, x5, x6, x7, g, ?_, fun q hq => ?_⟩
    · cases hr : runO c (r.takeWhile isW) with
      | none =>
        rw [hr] at rw1
        simp only [eVar_at, kVar_some, eC_at, eBin_at, k2_some, k3_some, eUn_at, k1_some, kVal_some, kBl_some, kEq_at, kBlN_some, kNe_at, kIn_at, kNotIn_at, kIx_at, ixO_tup, kLt_int, kLe_int, kGt_int, kGe_int, kLt_str, kLe_str, kGt_str, kGe_str, kIs_non, kIs_bl, kIs_int, kIs_str, kIs_tup, kIs_ref, kIsNot_non, kIsNot_bl, kIsNot_int, kIsNot_str, kIsNot_tup, kIsNot_ref, opAdd_int, opAdd_str, opSub_int, opMul_int, opDiv_int, opMod_int, opPow_int, opAnd_int, opOr_int, opNeg_int, eChain_at, kc1_some, kc2_some, kc3_true, kc3_false, kc4_some, tOf_at, kTru_some, kTru2_some, truD_non, truD_bl, truD_int, truD_tup, tAnd_at, kAnd_true, kAnd_false, tOr_at, kOr_true, kOr_false, tNot_at, kNot_some, tYes_at, eAnd_at, keAnd_some, keAnd2_true, keAnd2_false, eOr_at, keOr_some, keOr2_true, keOr2_false, eNot_at, keNot_some, keNot2_some, eIf_at, keIf_true, keIf_false, aNil_at, aCons_at, ka1_some, ka2_some, eTup_at, kTup_0, kTup_1, kTup_2, kTup_3, kTup_4, kTup_5, kTup_6, eLst_at, kLst_0, kLst_1, kLst_2, kLst_3, kLst_4, eDic0_at, eCall_at, kCall_some, o1_at, isiO_at, kIsi_some, tyD_non, tyD_bl, tyD_int, tyD_str, tyD_tup, eBM_at, kbm1_some, kbm2_some, eSl_at, ks2_some, ks3_some, ks4_some, oNone_at, oSome_at, kSome_int, slO_str, sSeq_at, kSeq_nx, kSeq_rt, kSeq_bk, kSeq_ct, sNext_at, sBreak_at, sCont_at, sRetN_at, sRet_at, kRet_some, sExpr_at, kExpr_some, sSet_at, kSet_some, sIf_at, kIf_true, kIf_false, sPar2_k, kPar2_some, sPar3_k, kPar3_some, sAsg_at, kAsg_some, kAsg2_some, mName_at, mTup_2, mTup_3, mCons_at, kmCons_some, mNil_at, sPut_at, kp1_some, kp2_some, kp3_some, kp4_some, kFn_rt, kFn_nx, mkFn_0, mkFn_1, mkFn_2, mkFn_3, mkFn_4, mkFn_5, sWhile_at, List.getElem?_cons_zero, List.getElem?_cons_succ, List.set_cons_zero, List.set_cons_succ, List.replicate_succ, List.replicate_zero, Nat.reduceSub, Bool.not_true, Bool.not_false, ite_true, ite_false, if_true, if_false, reduceCtorEq, fldM_at, sFldM_at, kSF1_some, kSF2_some, kSF3_some, sFldAddM_at, kSA1_some, kSA2_int, eMake_at, kMk1_some, kMk2_some, isCM_at, isCO_non, eGet1_at, kG12_some, kG13_some, eGet2_at, kG22_some, kG23_some, eCallD_at, kCallD_some, eKdx_at, kKdx_some, kIsB_at, kEqE_at, kNeE_at, kInN_at, minF_at, dictF_at, atI0, atI1, eq_str, ixO_tup, lenO_tup, mTup_2, List.cons.injEq, Nat.reduceEqDiff, decide_false, decide_true, and_false, and_true, false_and, true_and, Bool.or_false, Bool.or_true, Bool.true_or, Bool.false_or, Bool.and_true, Bool.and_false, Bool.false_and, Bool.true_and, eReprC_at, kRep2_some, kRep3_some, Int.reduceLE, Int.reduceLT, c1, decide_true, slO_str, lm, ct, rw1, if_true, Option.map_none, dO]
      | some w =>
        rw [hr] at rw1
        simp only [eVar_at, kVar_some, eC_at, eBin_at, k2_some, k3_some, eUn_at, k1_some, kVal_some, kBl_some, kEq_at, kBlN_some, kNe_at, kIn_at, kNotIn_at, kIx_at, ixO_tup, kLt_int, kLe_int, kGt_int, kGe_int, kLt_str, kLe_str, kGt_str, kGe_str, kIs_non, kIs_bl, kIs_int, kIs_str, kIs_tup, kIs_ref, kIsNot_non, kIsNot_bl, kIsNot_int, kIsNot_str, kIsNot_tup, kIsNot_ref, opAdd_int, opAdd_str, opSub_int, opMul_int, opDiv_int, opMod_int, opPow_int, opAnd_int, opOr_int, opNeg_int, eChain_at, kc1_some, kc2_some, kc3_true, kc3_false, kc4_some, tOf_at, kTru_some, kTru2_some, truD_non, truD_bl, truD_int, truD_tup, tAnd_at, kAnd_true, kAnd_false, tOr_at, kOr_true, kOr_false, tNot_at, kNot_some, tYes_at, eAnd_at, keAnd_some, keAnd2_true, keAnd2_false, eOr_at, keOr_some, keOr2_true, keOr2_false, eNot_at, keNot_some, keNot2_some, eIf_at, keIf_true, keIf_false, aNil_at, aCons_at, ka1_some, ka2_some, eTup_at, kTup_0, kTup_1, kTup_2, kTup_3, kTup_4, kTup_5, kTup_6, eLst_at, kLst_0, kLst_1, kLst_2, kLst_3, kLst_4, eDic0_at, eCall_at, kCall_some, o1_at, isiO_at, kIsi_some, tyD_non, tyD_bl, tyD_int, tyD_str, tyD_tup, eBM_at, kbm1_some, kbm2_some, eSl_at, ks2_some, ks3_some, ks4_some, oNone_at, oSome_at, kSome_int, slO_str, sSeq_at, kSeq_nx, kSeq_rt, kSeq_bk, kSeq_ct, sNext_at, sBreak_at, sCont_at, sRetN_at, sRet_at, kRet_some, sExpr_at, kExpr_some, sSet_at, kSet_some, sIf_at, kIf_true, kIf_false, sPar2_k, kPar2_some, sPar3_k, kPar3_some, sAsg_at, kAsg_some, kAsg2_some, mName_at, mTup_2, mTup_3, mCons_at, kmCons_some, mNil_at, sPut_at, kp1_some, kp2_some, kp3_some, kp4_some, kFn_rt, kFn_nx, mkFn_0, mkFn_1, mkFn_2, mkFn_3, mkFn_4, mkFn_5, sWhile_at, List.getElem?_cons_zero, List.getElem?_cons_succ, List.set_cons_zero, List.set_cons_succ, List.replicate_succ, List.replicate_zero, Nat.reduceSub, Bool.not_true, Bool.not_false, ite_true, ite_false, if_true, if_false, reduceCtorEq, fldM_at, sFldM_at, kSF1_some, kSF2_some, kSF3_some, sFldAddM_at, kSA1_some, kSA2_int, eMake_at, kMk1_some, kMk2_some, isCM_at, isCO_non, eGet1_at, kG12_some, kG13_some, eGet2_at, kG22_some, kG23_some, eCallD_at, kCallD_some, eKdx_at, kKdx_some, kIsB_at, kEqE_at, kNeE_at, kInN_at, minF_at, dictF_at, atI0, atI1, eq_str, ixO_tup, lenO_tup, mTup_2, List.cons.injEq, Nat.reduceEqDiff, decide_false, decide_true, and_false, and_true, false_and, true_and, Bool.or_false, Bool.or_true, Bool.true_or, Bool.false_or, Bool.and_true, Bool.and_false, Bool.false_and, Bool.true_and, eReprC_at, kRep2_some, kRep3_some, Int.reduceLE, Int.reduceLT, c1, decide_true, slO_str, lm, ct, rw1, if_true, Option.map_some, dO]
    · rw [if_pos rfl] at hq
      obtain ⟨w', _, e⟩ := Option.map_eq_some_iff.mp hq
      rw [← e]
      rfl
  | false =>
    rw [List.takeWhile_cons_of_neg (by rw [hw]; exact Bool.false_ne_true)]
    have c1 : ¬ ((([] : List Nat).length : Int) > 0) := by decide
    have d34 := dec_one c 34
    cases hq : decide (c = 34) with
    | true =>
      rw [hq] at d34
      have hc := of_decide_eq_true hq
      have ct : cutG (c :: r) (some 1) none = r := cut_tl (c :: r) 1 (by rw [List.length_cons]; omega)
      rw [List.length_cons] at hl
      obtain ⟨z, pm⟩ := part_is r 34 (by omega) (okS_128 fun y hy => ha y (by rw [hc]; exact hy)) st
      have hu : r.takeWhile (· != 34) = untQ r := rfl
      rw [hu] at pm
      have iss : isS st (.str r) = true := rfl
      have ul : (untQ r).length ≤ r.length := (List.takeWhile_prefix _).length_le
      have ln := len_str (untQ r) (by omega) st
      have ek : (((untQ r).length + 2 : Nat) : Int) = ((untQ r).length : Int) + 2 := by omega
      unfold textO
      by_cases h : 34 ∈ r
      · rw [if_pos h] at pm
        have d1 : decide (34 ∈ r) = true := decide_eq_true h
        by_cases hq2 : (untQ r).length ≤ 40
        · have c3 : ((untQ r).length : Int) < 41 := by omega
          have d2 : decide ((untQ r).length ≤ 40) = true := decide_eq_true hq2
          refine ⟨(untQ r).length + 2, some (.str (untQ r)), some (.str [34]), some (.str z), [], ?_, fun q hq => ?_⟩
          · simp only [eVar_at, kVar_some, eC_at, eBin_at, k2_some, k3_some, eUn_at, k1_some, kVal_some, kBl_some, kEq_at, kBlN_some, kNe_at, kIn_at, kNotIn_at, kIx_at, ixO_tup, kLt_int, kLe_int, kGt_int, kGe_int, kLt_str, kLe_str, kGt_str, kGe_str, kIs_non, kIs_bl, kIs_int, kIs_str, kIs_tup, kIs_ref, kIsNot_non, kIsNot_bl, kIsNot_int, kIsNot_str, kIsNot_tup, kIsNot_ref, opAdd_int, opAdd_str, opSub_int, opMul_int, opDiv_int, opMod_int, opPow_int, opAnd_int, opOr_int, opNeg_int, eChain_at, kc1_some, kc2_some, kc3_true, kc3_false, kc4_some, tOf_at, kTru_some, kTru2_some, truD_non, truD_bl, truD_int, truD_tup, tAnd_at, kAnd_true, kAnd_false, tOr_at, kOr_true, kOr_false, tNot_at, kNot_some, tYes_at, eAnd_at, keAnd_some, keAnd2_true, keAnd2_false, eOr_at, keOr_some, keOr2_true, keOr2_false, eNot_at, keNot_some, keNot2_some, eIf_at, keIf_true, keIf_false, aNil_at, aCons_at, ka1_some, ka2_some, eTup_at, kTup_0, kTup_1, kTup_2, kTup_3, kTup_4, kTup_5, kTup_6, eLst_at, kLst_0, kLst_1, kLst_2, kLst_3, kLst_4, eDic0_at, eCall_at, kCall_some, o1_at, isiO_at, kIsi_some, tyD_non, tyD_bl, tyD_int, tyD_str, tyD_tup, eBM_at, kbm1_some, kbm2_some, eSl_at, ks2_some, ks3_some, ks4_some, oNone_at, oSome_at, kSome_int, slO_str, sSeq_at, kSeq_nx, kSeq_rt, kSeq_bk, kSeq_ct, sNext_at, sBreak_at, sCont_at, sRetN_at, sRet_at, kRet_some, sExpr_at, kExpr_some, sSet_at, kSet_some, sIf_at, kIf_true, kIf_false, sPar2_k, kPar2_some, sPar3_k, kPar3_some, sAsg_at, kAsg_some, kAsg2_some, mName_at, mTup_2, mTup_3, mCons_at, kmCons_some, mNil_at, sPut_at, kp1_some, kp2_some, kp3_some, kp4_some, kFn_rt, kFn_nx, mkFn_0, mkFn_1, mkFn_2, mkFn_3, mkFn_4, mkFn_5, sWhile_at, List.getElem?_cons_zero, List.getElem?_cons_succ, List.set_cons_zero, List.set_cons_succ, List.replicate_succ, List.replicate_zero, Nat.reduceSub, Bool.not_true, Bool.not_false, ite_true, ite_false, if_true, if_false, reduceCtorEq, fldM_at, sFldM_at, kSF1_some, kSF2_some, kSF3_some, sFldAddM_at, kSA1_some, kSA2_int, eMake_at, kMk1_some, kMk2_some, isCM_at, isCO_non, eGet1_at, kG12_some, kG13_some, eGet2_at, kG22_some, kG23_some, eCallD_at, kCallD_some, eKdx_at, kKdx_some, kIsB_at, kEqE_at, kNeE_at, kInN_at, minF_at, dictF_at, atI0, atI1, eq_str, ixO_tup, lenO_tup, mTup_2, List.cons.injEq, Nat.reduceEqDiff, decide_false, decide_true, and_false, and_true, false_and, true_and, Bool.or_false, Bool.or_true, Bool.true_or, Bool.false_or, Bool.and_true, Bool.and_false, Bool.false_and, Bool.true_and, eReprC_at, kRep2_some, kRep3_some, Int.reduceLE, Int.reduceLT, c1, decide_false, x0', d34, slO_str, lm, ct, iss, pm, ln, c3, decide_true, d1, d2, ek, if_true, if_false, Option.map_some, dO, Wo.d, List.append_nil, -List.cons.injEq]
          · simp only [d1, d2, Bool.and_self, if_true, if_false, Bool.false_eq_true] at hq
            injection hq with hq
            rw [← hq]
        · have c3 : ¬ (((untQ r).length : Int) < 41) := by omega
          have d2 : decide ((untQ r).length ≤ 40) = false := decide_eq_false hq2
          refine ⟨(untQ r).length + 2, some (.str (untQ r)), some (.str [34]), some (.str z), [], ?_, fun q hq => ?_⟩
          · simp only [eVar_at, kVar_some, eC_at, eBin_at, k2_some, k3_some, eUn_at, k1_some, kVal_some, kBl_some, kEq_at, kBlN_some, kNe_at, kIn_at, kNotIn_at, kIx_at, ixO_tup, kLt_int, kLe_int, kGt_int, kGe_int, kLt_str, kLe_str, kGt_str, kGe_str, kIs_non, kIs_bl, kIs_int, kIs_str, kIs_tup, kIs_ref, kIsNot_non, kIsNot_bl, kIsNot_int, kIsNot_str, kIsNot_tup, kIsNot_ref, opAdd_int, opAdd_str, opSub_int, opMul_int, opDiv_int, opMod_int, opPow_int, opAnd_int, opOr_int, opNeg_int, eChain_at, kc1_some, kc2_some, kc3_true, kc3_false, kc4_some, tOf_at, kTru_some, kTru2_some, truD_non, truD_bl, truD_int, truD_tup, tAnd_at, kAnd_true, kAnd_false, tOr_at, kOr_true, kOr_false, tNot_at, kNot_some, tYes_at, eAnd_at, keAnd_some, keAnd2_true, keAnd2_false, eOr_at, keOr_some, keOr2_true, keOr2_false, eNot_at, keNot_some, keNot2_some, eIf_at, keIf_true, keIf_false, aNil_at, aCons_at, ka1_some, ka2_some, eTup_at, kTup_0, kTup_1, kTup_2, kTup_3, kTup_4, kTup_5, kTup_6, eLst_at, kLst_0, kLst_1, kLst_2, kLst_3, kLst_4, eDic0_at, eCall_at, kCall_some, o1_at, isiO_at, kIsi_some, tyD_non, tyD_bl, tyD_int, tyD_str, tyD_tup, eBM_at, kbm1_some, kbm2_some, eSl_at, ks2_some, ks3_some, ks4_some, oNone_at, oSome_at, kSome_int, slO_str, sSeq_at, kSeq_nx, kSeq_rt, kSeq_bk, kSeq_ct, sNext_at, sBreak_at, sCont_at, sRetN_at, sRet_at, kRet_some, sExpr_at, kExpr_some, sSet_at, kSet_some, sIf_at, kIf_true, kIf_false, sPar2_k, kPar2_some, sPar3_k, kPar3_some, sAsg_at, kAsg_some, kAsg2_some, mName_at, mTup_2, mTup_3, mCons_at, kmCons_some, mNil_at, sPut_at, kp1_some, kp2_some, kp3_some, kp4_some, kFn_rt, kFn_nx, mkFn_0, mkFn_1, mkFn_2, mkFn_3, mkFn_4, mkFn_5, sWhile_at, List.getElem?_cons_zero, List.getElem?_cons_succ, List.set_cons_zero, List.set_cons_succ, List.replicate_succ, List.replicate_zero, Nat.reduceSub, Bool.not_true, Bool.not_false, ite_true, ite_false, if_true, if_false, reduceCtorEq, fldM_at, sFldM_at, kSF1_some, kSF2_some, kSF3_some, sFldAddM_at, kSA1_some, kSA2_int, eMake_at, kMk1_some, kMk2_some, isCM_at, isCO_non, eGet1_at, kG12_some, kG13_some, eGet2_at, kG22_some, kG23_some, eCallD_at, kCallD_some, eKdx_at, kKdx_some, kIsB_at, kEqE_at, kNeE_at, kInN_at, minF_at, dictF_at, atI0, atI1, eq_str, ixO_tup, lenO_tup, mTup_2, List.cons.injEq, Nat.reduceEqDiff, decide_false, decide_true, and_false, and_true, false_and, true_and, Bool.or_false, Bool.or_true, Bool.true_or, Bool.false_or, Bool.and_true, Bool.and_false, Bool.false_and, Bool.true_and, eReprC_at, kRep2_some, kRep3_some, Int.reduceLE, Int.reduceLT, c1, decide_false, x0', d34, slO_str, lm, ct, iss, pm, ln, c3, decide_true, d1, d2, ek, if_true, if_false, Option.map_none, dO, List.append_nil, -List.cons.injEq]
          · simp only [d1, d2, Bool.and_false, if_true, if_false, Bool.false_eq_true] at hq
            cases hq
      · rw [if_neg h] at pm
        have d1 : decide (34 ∈ r) = false := decide_eq_false h
        refine ⟨(untQ r).length + 2, some (.str (untQ r)), some (.str []), some (.str z), [], ?_, fun q hq => ?_⟩
        · simp only [eVar_at, kVar_some, eC_at, eBin_at, k2_some, k3_some, eUn_at, k1_some, kVal_some, kBl_some, kEq_at, kBlN_some, kNe_at, kIn_at, kNotIn_at, kIx_at, ixO_tup, kLt_int, kLe_int, kGt_int, kGe_int, kLt_str, kLe_str, kGt_str, kGe_str, kIs_non, kIs_bl, kIs_int, kIs_str, kIs_tup, kIs_ref, kIsNot_non, kIsNot_bl, kIsNot_int, kIsNot_str, kIsNot_tup, kIsNot_ref, opAdd_int, opAdd_str, opSub_int, opMul_int, opDiv_int, opMod_int, opPow_int, opAnd_int, opOr_int, opNeg_int, eChain_at, kc1_some, kc2_some, kc3_true, kc3_false, kc4_some, tOf_at, kTru_some, kTru2_some, truD_non, truD_bl, truD_int, truD_tup, tAnd_at, kAnd_true, kAnd_false, tOr_at, kOr_true, kOr_false, tNot_at, kNot_some, tYes_at, eAnd_at, keAnd_some, keAnd2_true, keAnd2_false, eOr_at, keOr_some, keOr2_true, keOr2_false, eNot_at, keNot_some, keNot2_some, eIf_at, keIf_true, keIf_false, aNil_at, aCons_at, ka1_some, ka2_some, eTup_at, kTup_0, kTup_1, kTup_2, kTup_3, kTup_4, kTup_5, kTup_6, eLst_at, kLst_0, kLst_1, kLst_2, kLst_3, kLst_4, eDic0_at, eCall_at, kCall_some, o1_at, isiO_at, kIsi_some, tyD_non, tyD_bl, tyD_int, tyD_str, tyD_tup, eBM_at, kbm1_some, kbm2_some, eSl_at, ks2_some, ks3_some, ks4_some, oNone_at, oSome_at, kSome_int, slO_str, sSeq_at, kSeq_nx, kSeq_rt, kSeq_bk, kSeq_ct, sNext_at, sBreak_at, sCont_at, sRetN_at, sRet_at, kRet_some, sExpr_at, kExpr_some, sSet_at, kSet_some, sIf_at, kIf_true, kIf_false, sPar2_k, kPar2_some, sPar3_k, kPar3_some, sAsg_at, kAsg_some, kAsg2_some, mName_at, mTup_2, mTup_3, mCons_at, kmCons_some, mNil_at, sPut_at, kp1_some, kp2_some, kp3_some, kp4_some, kFn_rt, kFn_nx, mkFn_0, mkFn_1, mkFn_2, mkFn_3, mkFn_4, mkFn_5, sWhile_at, List.getElem?_cons_zero, List.getElem?_cons_succ, List.set_cons_zero, List.set_cons_succ, List.replicate_succ, List.replicate_zero, Nat.reduceSub, Bool.not_true, Bool.not_false, ite_true, ite_false, if_true, if_false, reduceCtorEq, fldM_at, sFldM_at, kSF1_some, kSF2_some, kSF3_some, sFldAddM_at, kSA1_some, kSA2_int, eMake_at, kMk1_some, kMk2_some, isCM_at, isCO_non, eGet1_at, kG12_some, kG13_some, eGet2_at, kG22_some, kG23_some, eCallD_at, kCallD_some, eKdx_at, kKdx_some, kIsB_at, kEqE_at, kNeE_at, kInN_at, minF_at, dictF_at, atI0, atI1, eq_str, ixO_tup, lenO_tup, mTup_2, List.cons.injEq, Nat.reduceEqDiff, decide_false, decide_true, and_false, and_true, false_and, true_and, Bool.or_false, Bool.or_true, Bool.true_or, Bool.false_or, Bool.and_true, Bool.and_false, Bool.false_and, Bool.true_and, eReprC_at, kRep2_some, kRep3_some, Int.reduceLE, Int.reduceLT, c1, decide_false, x0', d34, slO_str, lm, ct, iss, pm, ln, decide_true, d1, ek, if_true, if_false, Option.map_none, dO, List.append_nil, -List.cons.injEq]
        · simp only [d1, Bool.false_and, if_true, if_false, Bool.false_eq_true] at hq
          cases hq
    | false =>
      rw [hq] at d34
      have ct : cutG (c :: r) none (some 2) = (c :: r).take 2 := cut_hd (c :: r) 2
      have ct1 : cutG (c :: r) none (some 1) = [c] := cut_hd (c :: r) 1
      have i1 : inO st (.str ((c :: r).take 2)) (.tup [.str [47, 47], .str [60, 61], .str [62, 61], .str [61, 61], .str [33, 61], .str [43, 61], .str [45, 61], .str [42, 61]]) = some (decide ((c :: r).take 2 ∈ LONG)) := in_tup st _ LONG
      have kt : ∀ (a b c d e f g h : D) (s : Sto), kTup (some ([a, b, c, d, e, f, g, h], s)) = some (.tup [a, b, c, d, e, f, g, h], s) := fun _ _ _ _ _ _ _ _ _ => rfl
      have b1 : intO (.bl true) st = some (.int 1) := rfl
      have b0 : intO (.bl false) st = some (.int 0) := rfl
      have i2 := in_one st c SHORT
      unfold markO
      cases h1 : decide ((c :: r).take 2 ∈ LONG) with
      | true =>
        rw [h1] at i1
        refine ⟨2, x5, x6, x7, [], ?_, fun q hq => ?_⟩
        · have e2 : ((1 : Int) + 1 == 2) = true := by decide
          have e3 : ((1 : Int) + 1) = 2 := by decide
          have e4 : (((2 : Nat) : Int)) = 2 := rfl
          have e5 : ((2 : Int) == 2) = true := by decide
          simp only [eVar_at, kVar_some, eC_at, eBin_at, k2_some, k3_some, eUn_at, k1_some, kVal_some, kBl_some, kEq_at, kBlN_some, kNe_at, kIn_at, kNotIn_at, kIx_at, ixO_tup, kLt_int, kLe_int, kGt_int, kGe_int, kLt_str, kLe_str, kGt_str, kGe_str, kIs_non, kIs_bl, kIs_int, kIs_str, kIs_tup, kIs_ref, kIsNot_non, kIsNot_bl, kIsNot_int, kIsNot_str, kIsNot_tup, kIsNot_ref, opAdd_int, opAdd_str, opSub_int, opMul_int, opDiv_int, opMod_int, opPow_int, opAnd_int, opOr_int, opNeg_int, eChain_at, kc1_some, kc2_some, kc3_true, kc3_false, kc4_some, tOf_at, kTru_some, kTru2_some, truD_non, truD_bl, truD_int, truD_tup, tAnd_at, kAnd_true, kAnd_false, tOr_at, kOr_true, kOr_false, tNot_at, kNot_some, tYes_at, eAnd_at, keAnd_some, keAnd2_true, keAnd2_false, eOr_at, keOr_some, keOr2_true, keOr2_false, eNot_at, keNot_some, keNot2_some, eIf_at, keIf_true, keIf_false, aNil_at, aCons_at, ka1_some, ka2_some, eTup_at, kTup_0, kTup_1, kTup_2, kTup_3, kTup_4, kTup_5, kTup_6, eLst_at, kLst_0, kLst_1, kLst_2, kLst_3, kLst_4, eDic0_at, eCall_at, kCall_some, o1_at, isiO_at, kIsi_some, tyD_non, tyD_bl, tyD_int, tyD_str, tyD_tup, eBM_at, kbm1_some, kbm2_some, eSl_at, ks2_some, ks3_some, ks4_some, oNone_at, oSome_at, kSome_int, slO_str, sSeq_at, kSeq_nx, kSeq_rt, kSeq_bk, kSeq_ct, sNext_at, sBreak_at, sCont_at, sRetN_at, sRet_at, kRet_some, sExpr_at, kExpr_some, sSet_at, kSet_some, sIf_at, kIf_true, kIf_false, sPar2_k, kPar2_some, sPar3_k, kPar3_some, sAsg_at, kAsg_some, kAsg2_some, mName_at, mTup_2, mTup_3, mCons_at, kmCons_some, mNil_at, sPut_at, kp1_some, kp2_some, kp3_some, kp4_some, kFn_rt, kFn_nx, mkFn_0, mkFn_1, mkFn_2, mkFn_3, mkFn_4, mkFn_5, sWhile_at, List.getElem?_cons_zero, List.getElem?_cons_succ, List.set_cons_zero, List.set_cons_succ, List.replicate_succ, List.replicate_zero, Nat.reduceSub, Bool.not_true, Bool.not_false, ite_true, ite_false, if_true, if_false, reduceCtorEq, fldM_at, sFldM_at, kSF1_some, kSF2_some, kSF3_some, sFldAddM_at, kSA1_some, kSA2_int, eMake_at, kMk1_some, kMk2_some, isCM_at, isCO_non, eGet1_at, kG12_some, kG13_some, eGet2_at, kG22_some, kG23_some, eCallD_at, kCallD_some, eKdx_at, kKdx_some, kIsB_at, kEqE_at, kNeE_at, kInN_at, minF_at, dictF_at, atI0, atI1, eq_str, ixO_tup, lenO_tup, mTup_2, List.cons.injEq, Nat.reduceEqDiff, decide_false, decide_true, and_false, and_true, false_and, true_and, Bool.or_false, Bool.or_true, Bool.true_or, Bool.false_or, Bool.and_true, Bool.and_false, Bool.false_and, Bool.true_and, eReprC_at, kRep2_some, kRep3_some, Int.reduceLE, Int.reduceLT, c1, decide_false, x0', d34, slO_str, lm, ct, kt, i1, b1, eqO_int, e3, e4, e5, if_true, if_false, Option.map_some, dO, Wo.d, List.append_nil, -List.cons.injEq]
        · simp only [if_true, if_false, Bool.false_eq_true] at hq
          injection hq with hq
          rw [← hq]
      | false =>
        rw [h1] at i1
        have e3 : ((1 : Int) + 0) = 1 := by decide
        have e4 : (((1 : Nat) : Int)) = 1 := rfl
        have e5 : ((1 : Int) == 2) = false := by decide
        cases h2 : decide (c ∈ SHORT) with
        | true =>
          rw [h2] at i2
          refine ⟨1, x5, x6, x7, [], ?_, fun q hq => ?_⟩
          · simp only [eVar_at, kVar_some, eC_at, eBin_at, k2_some, k3_some, eUn_at, k1_some, kVal_some, kBl_some, kEq_at, kBlN_some, kNe_at, kIn_at, kNotIn_at, kIx_at, ixO_tup, kLt_int, kLe_int, kGt_int, kGe_int, kLt_str, kLe_str, kGt_str, kGe_str, kIs_non, kIs_bl, kIs_int, kIs_str, kIs_tup, kIs_ref, kIsNot_non, kIsNot_bl, kIsNot_int, kIsNot_str, kIsNot_tup, kIsNot_ref, opAdd_int, opAdd_str, opSub_int, opMul_int, opDiv_int, opMod_int, opPow_int, opAnd_int, opOr_int, opNeg_int, eChain_at, kc1_some, kc2_some, kc3_true, kc3_false, kc4_some, tOf_at, kTru_some, kTru2_some, truD_non, truD_bl, truD_int, truD_tup, tAnd_at, kAnd_true, kAnd_false, tOr_at, kOr_true, kOr_false, tNot_at, kNot_some, tYes_at, eAnd_at, keAnd_some, keAnd2_true, keAnd2_false, eOr_at, keOr_some, keOr2_true, keOr2_false, eNot_at, keNot_some, keNot2_some, eIf_at, keIf_true, keIf_false, aNil_at, aCons_at, ka1_some, ka2_some, eTup_at, kTup_0, kTup_1, kTup_2, kTup_3, kTup_4, kTup_5, kTup_6, eLst_at, kLst_0, kLst_1, kLst_2, kLst_3, kLst_4, eDic0_at, eCall_at, kCall_some, o1_at, isiO_at, kIsi_some, tyD_non, tyD_bl, tyD_int, tyD_str, tyD_tup, eBM_at, kbm1_some, kbm2_some, eSl_at, ks2_some, ks3_some, ks4_some, oNone_at, oSome_at, kSome_int, slO_str, sSeq_at, kSeq_nx, kSeq_rt, kSeq_bk, kSeq_ct, sNext_at, sBreak_at, sCont_at, sRetN_at, sRet_at, kRet_some, sExpr_at, kExpr_some, sSet_at, kSet_some, sIf_at, kIf_true, kIf_false, sPar2_k, kPar2_some, sPar3_k, kPar3_some, sAsg_at, kAsg_some, kAsg2_some, mName_at, mTup_2, mTup_3, mCons_at, kmCons_some, mNil_at, sPut_at, kp1_some, kp2_some, kp3_some, kp4_some, kFn_rt, kFn_nx, mkFn_0, mkFn_1, mkFn_2, mkFn_3, mkFn_4, mkFn_5, sWhile_at, List.getElem?_cons_zero, List.getElem?_cons_succ, List.set_cons_zero, List.set_cons_succ, List.replicate_succ, List.replicate_zero, Nat.reduceSub, Bool.not_true, Bool.not_false, ite_true, ite_false, if_true, if_false, reduceCtorEq, fldM_at, sFldM_at, kSF1_some, kSF2_some, kSF3_some, sFldAddM_at, kSA1_some, kSA2_int, eMake_at, kMk1_some, kMk2_some, isCM_at, isCO_non, eGet1_at, kG12_some, kG13_some, eGet2_at, kG22_some, kG23_some, eCallD_at, kCallD_some, eKdx_at, kKdx_some, kIsB_at, kEqE_at, kNeE_at, kInN_at, minF_at, dictF_at, atI0, atI1, eq_str, ixO_tup, lenO_tup, mTup_2, List.cons.injEq, Nat.reduceEqDiff, decide_false, decide_true, and_false, and_true, false_and, true_and, Bool.or_false, Bool.or_true, Bool.true_or, Bool.false_or, Bool.and_true, Bool.and_false, Bool.false_and, Bool.true_and, eReprC_at, kRep2_some, kRep3_some, Int.reduceLE, Int.reduceLT, c1, decide_false, x0', d34, slO_str, lm, ct, ct1, kt, i1, b0, i2, eqO_int, e3, e4, e5, if_true, if_false, Option.map_some, dO, Wo.d, List.append_nil, -List.cons.injEq]
          · simp only [if_true, if_false, Bool.false_eq_true] at hq
            injection hq with hq
            rw [← hq]
        | false =>
          rw [h2] at i2
          refine ⟨1, x5, x6, x7, [], ?_, fun q hq => ?_⟩
          · simp only [eVar_at, kVar_some, eC_at, eBin_at, k2_some, k3_some, eUn_at, k1_some, kVal_some, kBl_some, kEq_at, kBlN_some, kNe_at, kIn_at, kNotIn_at, kIx_at, ixO_tup, kLt_int, kLe_int, kGt_int, kGe_int, kLt_str, kLe_str, kGt_str, kGe_str, kIs_non, kIs_bl, kIs_int, kIs_str, kIs_tup, kIs_ref, kIsNot_non, kIsNot_bl, kIsNot_int, kIsNot_str, kIsNot_tup, kIsNot_ref, opAdd_int, opAdd_str, opSub_int, opMul_int, opDiv_int, opMod_int, opPow_int, opAnd_int, opOr_int, opNeg_int, eChain_at, kc1_some, kc2_some, kc3_true, kc3_false, kc4_some, tOf_at, kTru_some, kTru2_some, truD_non, truD_bl, truD_int, truD_tup, tAnd_at, kAnd_true, kAnd_false, tOr_at, kOr_true, kOr_false, tNot_at, kNot_some, tYes_at, eAnd_at, keAnd_some, keAnd2_true, keAnd2_false, eOr_at, keOr_some, keOr2_true, keOr2_false, eNot_at, keNot_some, keNot2_some, eIf_at, keIf_true, keIf_false, aNil_at, aCons_at, ka1_some, ka2_some, eTup_at, kTup_0, kTup_1, kTup_2, kTup_3, kTup_4, kTup_5, kTup_6, eLst_at, kLst_0, kLst_1, kLst_2, kLst_3, kLst_4, eDic0_at, eCall_at, kCall_some, o1_at, isiO_at, kIsi_some, tyD_non, tyD_bl, tyD_int, tyD_str, tyD_tup, eBM_at, kbm1_some, kbm2_some, eSl_at, ks2_some, ks3_some, ks4_some, oNone_at, oSome_at, kSome_int, slO_str, sSeq_at, kSeq_nx, kSeq_rt, kSeq_bk, kSeq_ct, sNext_at, sBreak_at, sCont_at, sRetN_at, sRet_at, kRet_some, sExpr_at, kExpr_some, sSet_at, kSet_some, sIf_at, kIf_true, kIf_false, sPar2_k, kPar2_some, sPar3_k, kPar3_some, sAsg_at, kAsg_some, kAsg2_some, mName_at, mTup_2, mTup_3, mCons_at, kmCons_some, mNil_at, sPut_at, kp1_some, kp2_some, kp3_some, kp4_some, kFn_rt, kFn_nx, mkFn_0, mkFn_1, mkFn_2, mkFn_3, mkFn_4, mkFn_5, sWhile_at, List.getElem?_cons_zero, List.getElem?_cons_succ, List.set_cons_zero, List.set_cons_succ, List.replicate_succ, List.replicate_zero, Nat.reduceSub, Bool.not_true, Bool.not_false, ite_true, ite_false, if_true, if_false, reduceCtorEq, fldM_at, sFldM_at, kSF1_some, kSF2_some, kSF3_some, sFldAddM_at, kSA1_some, kSA2_int, eMake_at, kMk1_some, kMk2_some, isCM_at, isCO_non, eGet1_at, kG12_some, kG13_some, eGet2_at, kG22_some, kG23_some, eCallD_at, kCallD_some, eKdx_at, kKdx_some, kIsB_at, kEqE_at, kNeE_at, kInN_at, minF_at, dictF_at, atI0, atI1, eq_str, ixO_tup, lenO_tup, mTup_2, List.cons.injEq, Nat.reduceEqDiff, decide_false, decide_true, and_false, and_true, false_and, true_and, Bool.or_false, Bool.or_true, Bool.true_or, Bool.false_or, Bool.and_true, Bool.and_false, Bool.false_and, Bool.true_and, eReprC_at, kRep2_some, kRep3_some, Int.reduceLE, Int.reduceLT, c1, decide_false, x0', d34, slO_str, lm, ct, kt, i1, b0, i2, eqO_int, e3, e4, e5, if_true, if_false, Option.map_none, dO, List.append_nil, -List.cons.injEq]
          · simp only [if_true, if_false, Bool.false_eq_true] at hq
            cases hq
end Math

set_option maxRecDepth 100000
set_option maxHeartbeats 4000000
namespace Math
open MP Text PySem

abbrev lwr (x0 x1 x2 x3 x4 x5 x6 x7 : Option D) : Rho := [x0, x1, x2, x3, x4, x5, x6, x7]
theorem lw_loop (p : Nat) (x0 : Option D) : ∀ (n : Nat) (suf : List Nat) (found : List Wo) (st : Sto) (x3 x4 x5 x6 x7 : Option D), suf.length < n → suf.length ≤ 50000 → (∀ c ∈ suf, c < 128) → st[p]? = some (.lst (found.map Wo.d)) → found.length + suf.length ≤ 50000 →
    ∃ m st', m ≤ suf.length + 1 ∧ Only [p] st st' ∧ ((∃ ws y2 y3 y4 y5 y6 y7, wds n suf = some ws ∧ (∀ k, loopW tW_l_words_3 uW_l_words_4 (m + k) (lwr x0 (some (.ref p)) (some (.str suf)) x3 x4 x5 x6 x7) st = some (.nx, lwr x0 (some (.ref p)) y2 y3 y4 y5 y6 y7, st')) ∧ st'[p]? = some (.lst ((found ++ ws).map Wo.d)) ∧ ws.length ≤ suf.length) ∨
      (wds n suf = none ∧ ∃ ρ', ∀ k, loopW tW_l_words_3 uW_l_words_4 (m + k) (lwr x0 (some (.ref p)) (some (.str suf)) x3 x4 x5 x6 x7) st = some (.rt .non, ρ', st')))
  | 0, suf, found, st, x3, x4, x5, x6, x7, hn, _, _, _, _ => absurd hn (Nat.not_lt_zero _)
  | n + 1, [], found, st, x3, x4, x5, x6, x7, hn, hl, ha, hp, hf => by
    refine ⟨1, st, by simp, Only.refl, .inl ⟨[], some (.str []), x3, x4, x5, x6, x7, rfl, fun k => ?_, by rw [List.append_nil]; exact hp, Nat.le_refl _⟩⟩
    rw [Nat.add_comm 1 k]
    refine loopW_stop (st' := st) ?_
    simp only [tW_l_words_3, eVar_at, kVar_some, eC_at, eBin_at, k2_some, k3_some, eUn_at, k1_some, kVal_some, kBl_some, kEq_at, kBlN_some, kNe_at, kIn_at, kNotIn_at, kIx_at, ixO_tup, kLt_int, kLe_int, kGt_int, kGe_int, kLt_str, kLe_str, kGt_str, kGe_str, kIs_non, kIs_bl, kIs_int, kIs_str, kIs_tup, kIs_ref, kIsNot_non, kIsNot_bl, kIsNot_int, kIsNot_str, kIsNot_tup, kIsNot_ref, opAdd_int, opAdd_str, opSub_int, opMul_int, opDiv_int, opMod_int, opPow_int, opAnd_int, opOr_int, opNeg_int, eChain_at, kc1_some, kc2_some, kc3_true, kc3_false, kc4_some, tOf_at, kTru_some, kTru2_some, truD_non, truD_bl, truD_int, truD_tup, tAnd_at, kAnd_true, kAnd_false, tOr_at, kOr_true, kOr_false, tNot_at, kNot_some, tYes_at, eAnd_at, keAnd_some, keAnd2_true, keAnd2_false, eOr_at, keOr_some, keOr2_true, keOr2_false, eNot_at, keNot_some, keNot2_some, eIf_at, keIf_true, keIf_false, aNil_at, aCons_at, ka1_some, ka2_some, eTup_at, kTup_0, kTup_1, kTup_2, kTup_3, kTup_4, kTup_5, kTup_6, eLst_at, kLst_0, kLst_1, kLst_2, kLst_3, kLst_4, eDic0_at, eCall_at, kCall_some, o1_at, isiO_at, kIsi_some, tyD_non, tyD_bl, tyD_int, tyD_str, tyD_tup, eBM_at, kbm1_some, kbm2_some, eSl_at, ks2_some, ks3_some, ks4_some, oNone_at, oSome_at, kSome_int, slO_str, sSeq_at, kSeq_nx, kSeq_rt, kSeq_bk, kSeq_ct, sNext_at, sBreak_at, sCont_at, sRetN_at, sRet_at, kRet_some, sExpr_at, kExpr_some, sSet_at, kSet_some, sIf_at, kIf_true, kIf_false, sPar2_k, kPar2_some, sPar3_k, kPar3_some, sAsg_at, kAsg_some, kAsg2_some, mName_at, mTup_2, mTup_3, mCons_at, kmCons_some, mNil_at, sPut_at, kp1_some, kp2_some, kp3_some, kp4_some, kFn_rt, kFn_nx, mkFn_0, mkFn_1, mkFn_2, mkFn_3, mkFn_4, mkFn_5, sWhile_at, List.getElem?_cons_zero, List.getElem?_cons_succ, List.set_cons_zero, List.set_cons_succ, List.replicate_succ, List.replicate_zero, Nat.reduceSub, Bool.not_true, Bool.not_false, ite_true, ite_false, if_true, if_false, reduceCtorEq, fldM_at, sFldM_at, kSF1_some, kSF2_some, kSF3_some, sFldAddM_at, kSA1_some, kSA2_int, eMake_at, kMk1_some, kMk2_some, isCM_at, isCO_non, eGet1_at, kG12_some, kG13_some, eGet2_at, kG22_some, kG23_some, eCallD_at, kCallD_some, eKdx_at, kKdx_some, kIsB_at, kEqE_at, kNeE_at, kInN_at, minF_at, dictF_at, atI0, atI1, eq_str, ixO_tup, lenO_tup, mTup_2, List.cons.injEq, Nat.reduceEqDiff, decide_false, decide_true, and_false, and_true, false_and, true_and, Bool.or_false, Bool.or_true, Bool.true_or, Bool.false_or, Bool.and_true, Bool.and_false, Bool.false_and, Bool.true_and, eReprC_at, kRep2_some, kRep3_some, Int.reduceLE, Int.reduceLT]
  | n + 1, c :: r, found, st, x3, x4, x5, x6, x7, hn, hl, ha, hp, hf => by
    have i00 := fun s => ix_pre [] c r (by rw [List.nil_append]; omega) s
    have ix0 : ∀ s, ixO (.str (c :: r)) (.int 0) s = some (.str [c]) := i00
    have d35 := dec_one c 35
    have d32 := dec_one c 32
    have hl2 := hl
    rw [List.length_cons] at hn hf hl2
    have lm : (c :: r).length ≤ LIM := lim1 (by omega)
    by_cases h35 : c = 35
    · refine ⟨1, st, by simp, Only.refl, .inl ⟨[], some (.str (c :: r)), x3, x4, x5, x6, x7, by unfold wds; rw [if_pos h35], fun k => ?_, by rw [List.append_nil]; exact hp, Nat.zero_le _⟩⟩
      rw [Nat.add_comm 1 k]
      refine loopW_stop (st' := st) ?_
      rw [decide_eq_true h35] at d35
      simp only [tW_l_words_3, eVar_at, kVar_some, eC_at, eBin_at, k2_some, k3_some, eUn_at, k1_some, kVal_some, kBl_some, kEq_at, kBlN_some, kNe_at, kIn_at, kNotIn_at, kIx_at, ixO_tup, kLt_int, kLe_int, kGt_int, kGe_int, kLt_str, kLe_str, kGt_str, kGe_str, kIs_non, kIs_bl, kIs_int, kIs_str, kIs_tup, kIs_ref, kIsNot_non, kIsNot_bl, kIsNot_int, kIsNot_str, kIsNot_tup, kIsNot_ref, opAdd_int, opAdd_str, opSub_int, opMul_int, opDiv_int, opMod_int, opPow_int, opAnd_int, opOr_int, opNeg_int, eChain_at, kc1_some, kc2_some, kc3_true, kc3_false, kc4_some, tOf_at, kTru_some, kTru2_some, truD_non, truD_bl, truD_int, truD_tup, tAnd_at, kAnd_true, kAnd_false, tOr_at, kOr_true, kOr_false, tNot_at, kNot_some, tYes_at, eAnd_at, keAnd_some, keAnd2_true, keAnd2_false, eOr_at, keOr_some, keOr2_true, keOr2_false, eNot_at, keNot_some, keNot2_some, eIf_at, keIf_true, keIf_false, aNil_at, aCons_at, ka1_some, ka2_some, eTup_at, kTup_0, kTup_1, kTup_2, kTup_3, kTup_4, kTup_5, kTup_6, eLst_at, kLst_0, kLst_1, kLst_2, kLst_3, kLst_4, eDic0_at, eCall_at, kCall_some, o1_at, isiO_at, kIsi_some, tyD_non, tyD_bl, tyD_int, tyD_str, tyD_tup, eBM_at, kbm1_some, kbm2_some, eSl_at, ks2_some, ks3_some, ks4_some, oNone_at, oSome_at, kSome_int, slO_str, sSeq_at, kSeq_nx, kSeq_rt, kSeq_bk, kSeq_ct, sNext_at, sBreak_at, sCont_at, sRetN_at, sRet_at, kRet_some, sExpr_at, kExpr_some, sSet_at, kSet_some, sIf_at, kIf_true, kIf_false, sPar2_k, kPar2_some, sPar3_k, kPar3_some, sAsg_at, kAsg_some, kAsg2_some, mName_at, mTup_2, mTup_3, mCons_at, kmCons_some, mNil_at, sPut_at, kp1_some, kp2_some, kp3_some, kp4_some, kFn_rt, kFn_nx, mkFn_0, mkFn_1, mkFn_2, mkFn_3, mkFn_4, mkFn_5, sWhile_at, List.getElem?_cons_zero, List.getElem?_cons_succ, List.set_cons_zero, List.set_cons_succ, List.replicate_succ, List.replicate_zero, Nat.reduceSub, Bool.not_true, Bool.not_false, ite_true, ite_false, if_true, if_false, reduceCtorEq, fldM_at, sFldM_at, kSF1_some, kSF2_some, kSF3_some, sFldAddM_at, kSA1_some, kSA2_int, eMake_at, kMk1_some, kMk2_some, isCM_at, isCO_non, eGet1_at, kG12_some, kG13_some, eGet2_at, kG22_some, kG23_some, eCallD_at, kCallD_some, eKdx_at, kKdx_some, kIsB_at, kEqE_at, kNeE_at, kInN_at, minF_at, dictF_at, atI0, atI1, eq_str, ixO_tup, lenO_tup, mTup_2, List.cons.injEq, Nat.reduceEqDiff, decide_false, decide_true, and_false, and_true, false_and, true_and, Bool.or_false, Bool.or_true, Bool.true_or, Bool.false_or, Bool.and_true, Bool.and_false, Bool.false_and, Bool.true_and, eReprC_at, kRep2_some, kRep3_some, Int.reduceLE, Int.reduceLT, ix0, d35, -List.cons.injEq]
    · rw [decide_eq_false h35] at d35
      have ht : tW_l_words_3 (lwr x0 (some (.ref p)) (some (.str (c :: r))) x3 x4 x5 x6 x7) st = some (true, st) := by
        simp only [tW_l_words_3, eVar_at, kVar_some, eC_at, eBin_at, k2_some, k3_some, eUn_at, k1_some, kVal_some, kBl_some, kEq_at, kBlN_some, kNe_at, kIn_at, kNotIn_at, kIx_at, ixO_tup, kLt_int, kLe_int, kGt_int, kGe_int, kLt_str, kLe_str, kGt_str, kGe_str, kIs_non, kIs_bl, kIs_int, kIs_str, kIs_tup, kIs_ref, kIsNot_non, kIsNot_bl, kIsNot_int, kIsNot_str, kIsNot_tup, kIsNot_ref, opAdd_int, opAdd_str, opSub_int, opMul_int, opDiv_int, opMod_int, opPow_int, opAnd_int, opOr_int, opNeg_int, eChain_at, kc1_some, kc2_some, kc3_true, kc3_false, kc4_some, tOf_at, kTru_some, kTru2_some, truD_non, truD_bl, truD_int, truD_tup, tAnd_at, kAnd_true, kAnd_false, tOr_at, kOr_true, kOr_false, tNot_at, kNot_some, tYes_at, eAnd_at, keAnd_some, keAnd2_true, keAnd2_false, eOr_at, keOr_some, keOr2_true, keOr2_false, eNot_at, keNot_some, keNot2_some, eIf_at, keIf_true, keIf_false, aNil_at, aCons_at, ka1_some, ka2_some, eTup_at, kTup_0, kTup_1, kTup_2, kTup_3, kTup_4, kTup_5, kTup_6, eLst_at, kLst_0, kLst_1, kLst_2, kLst_3, kLst_4, eDic0_at, eCall_at, kCall_some, o1_at, isiO_at, kIsi_some, tyD_non, tyD_bl, tyD_int, tyD_str, tyD_tup, eBM_at, kbm1_some, kbm2_some, eSl_at, ks2_some, ks3_some, ks4_some, oNone_at, oSome_at, kSome_int, slO_str, sSeq_at, kSeq_nx, kSeq_rt, kSeq_bk, kSeq_ct, sNext_at, sBreak_at, sCont_at, sRetN_at, sRet_at, kRet_some, sExpr_at, kExpr_some, sSet_at, kSet_some, sIf_at, kIf_true, kIf_false, sPar2_k, kPar2_some, sPar3_k, kPar3_some, sAsg_at, kAsg_some, kAsg2_some, mName_at, mTup_2, mTup_3, mCons_at, kmCons_some, mNil_at, sPut_at, kp1_some, kp2_some, kp3_some, kp4_some, kFn_rt, kFn_nx, mkFn_0, mkFn_1, mkFn_2, mkFn_3, mkFn_4, mkFn_5, sWhile_at, List.getElem?_cons_zero, List.getElem?_cons_succ, List.set_cons_zero, List.set_cons_succ, List.replicate_succ, List.replicate_zero, Nat.reduceSub, Bool.not_true, Bool.not_false, ite_true, ite_false, if_true, if_false, reduceCtorEq, fldM_at, sFldM_at, kSF1_some, kSF2_some, kSF3_some, sFldAddM_at, kSA1_some, kSA2_int, eMake_at, kMk1_some, kMk2_some, isCM_at, isCO_non, eGet1_at, kG12_some, kG13_some, eGet2_at, kG22_some, kG23_some, eCallD_at, kCallD_some, eKdx_at, kKdx_some, kIsB_at, kEqE_at, kNeE_at, kInN_at, minF_at, dictF_at, atI0, atI1, eq_str, ixO_tup, lenO_tup, mTup_2, List.cons.injEq, Nat.reduceEqDiff, decide_false, decide_true, and_false, and_true, false_and, true_and, Bool.or_false, Bool.or_true, Bool.true_or, Bool.false_or, Bool.and_true, Bool.and_false, Bool.false_and, Bool.true_and, eReprC_at, kRep2_some, kRep3_some, Int.reduceLE, Int.reduceLT, ix0, d35, -List.cons.injEq]
      have S0 : (sSet 3 (eC (.int 0))) (lwr x0 (some (.ref p)) (some (.str (c :: r))) x3 x4 x5 x6 x7) st = some (.nx, lwr x0 (some (.ref p)) (some (.str (c :: r))) (some (.int 0)) x4 x5 x6 x7, st) := by
        simp only [eVar_at, kVar_some, eC_at, eBin_at, k2_some, k3_some, eUn_at, k1_some, kVal_some, kBl_some, kEq_at, kBlN_some, kNe_at, kIn_at, kNotIn_at, kIx_at, ixO_tup, kLt_int, kLe_int, kGt_int, kGe_int, kLt_str, kLe_str, kGt_str, kGe_str, kIs_non, kIs_bl, kIs_int, kIs_str, kIs_tup, kIs_ref, kIsNot_non, kIsNot_bl, kIsNot_int, kIsNot_str, kIsNot_tup, kIsNot_ref, opAdd_int, opAdd_str, opSub_int, opMul_int, opDiv_int, opMod_int, opPow_int, opAnd_int, opOr_int, opNeg_int, eChain_at, kc1_some, kc2_some, kc3_true, kc3_false, kc4_some, tOf_at, kTru_some, kTru2_some, truD_non, truD_bl, truD_int, truD_tup, tAnd_at, kAnd_true, kAnd_false, tOr_at, kOr_true, kOr_false, tNot_at, kNot_some, tYes_at, eAnd_at, keAnd_some, keAnd2_true, keAnd2_false, eOr_at, keOr_some, keOr2_true, keOr2_false, eNot_at, keNot_some, keNot2_some, eIf_at, keIf_true, keIf_false, aNil_at, aCons_at, ka1_some, ka2_some, eTup_at, kTup_0, kTup_1, kTup_2, kTup_3, kTup_4, kTup_5, kTup_6, eLst_at, kLst_0, kLst_1, kLst_2, kLst_3, kLst_4, eDic0_at, eCall_at, kCall_some, o1_at, isiO_at, kIsi_some, tyD_non, tyD_bl, tyD_int, tyD_str, tyD_tup, eBM_at, kbm1_some, kbm2_some, eSl_at, ks2_some, ks3_some, ks4_some, oNone_at, oSome_at, kSome_int, slO_str, sSeq_at, kSeq_nx, kSeq_rt, kSeq_bk, kSeq_ct, sNext_at, sBreak_at, sCont_at, sRetN_at, sRet_at, kRet_some, sExpr_at, kExpr_some, sSet_at, kSet_some, sIf_at, kIf_true, kIf_false, sPar2_k, kPar2_some, sPar3_k, kPar3_some, sAsg_at, kAsg_some, kAsg2_some, mName_at, mTup_2, mTup_3, mCons_at, kmCons_some, mNil_at, sPut_at, kp1_some, kp2_some, kp3_some, kp4_some, kFn_rt, kFn_nx, mkFn_0, mkFn_1, mkFn_2, mkFn_3, mkFn_4, mkFn_5, sWhile_at, List.getElem?_cons_zero, List.getElem?_cons_succ, List.set_cons_zero, List.set_cons_succ, List.replicate_succ, List.replicate_zero, Nat.reduceSub, Bool.not_true, Bool.not_false, ite_true, ite_false, if_true, if_false, reduceCtorEq, fldM_at, sFldM_at, kSF1_some, kSF2_some, kSF3_some, sFldAddM_at, kSA1_some, kSA2_int, eMake_at, kMk1_some, kMk2_some, isCM_at, isCO_non, eGet1_at, kG12_some, kG13_some, eGet2_at, kG22_some, kG23_some, eCallD_at, kCallD_some, eKdx_at, kKdx_some, kIsB_at, kEqE_at, kNeE_at, kInN_at, minF_at, dictF_at, atI0, atI1, eq_str, ixO_tup, lenO_tup, mTup_2, List.cons.injEq, Nat.reduceEqDiff, decide_false, decide_true, and_false, and_true, false_and, true_and, Bool.or_false, Bool.or_true, Bool.true_or, Bool.false_or, Bool.and_true, Bool.and_false, Bool.false_and, Bool.true_and, eReprC_at, kRep2_some, kRep3_some, Int.reduceLE, Int.reduceLT]
      have S1 := lrun_while (c :: r) hl ha st x0 (some (.ref p)) x4 x5 x6 x7
      have S2 : (sSet 4 (eC .non)) (lwr x0 (some (.ref p)) (some (.str (c :: r))) (some (.int (((c :: r).takeWhile isW).length : Nat))) x4 x5 x6 x7) st = some (.nx, lwr x0 (some (.ref p)) (some (.str (c :: r))) (some (.int (((c :: r).takeWhile isW).length : Nat))) (some .non) x5 x6 x7, st) := by
        simp only [eVar_at, kVar_some, eC_at, eBin_at, k2_some, k3_some, eUn_at, k1_some, kVal_some, kBl_some, kEq_at, kBlN_some, kNe_at, kIn_at, kNotIn_at, kIx_at, ixO_tup, kLt_int, kLe_int, kGt_int, kGe_int, kLt_str, kLe_str, kGt_str, kGe_str, kIs_non, kIs_bl, kIs_int, kIs_str, kIs_tup, kIs_ref, kIsNot_non, kIsNot_bl, kIsNot_int, kIsNot_str, kIsNot_tup, kIsNot_ref, opAdd_int, opAdd_str, opSub_int, opMul_int, opDiv_int, opMod_int, opPow_int, opAnd_int, opOr_int, opNeg_int, eChain_at, kc1_some, kc2_some, kc3_true, kc3_false, kc4_some, tOf_at, kTru_some, kTru2_some, truD_non, truD_bl, truD_int, truD_tup, tAnd_at, kAnd_true, kAnd_false, tOr_at, kOr_true, kOr_false, tNot_at, kNot_some, tYes_at, eAnd_at, keAnd_some, keAnd2_true, keAnd2_false, eOr_at, keOr_some, keOr2_true, keOr2_false, eNot_at, keNot_some, keNot2_some, eIf_at, keIf_true, keIf_false, aNil_at, aCons_at, ka1_some, ka2_some, eTup_at, kTup_0, kTup_1, kTup_2, kTup_3, kTup_4, kTup_5, kTup_6, eLst_at, kLst_0, kLst_1, kLst_2, kLst_3, kLst_4, eDic0_at, eCall_at, kCall_some, o1_at, isiO_at, kIsi_some, tyD_non, tyD_bl, tyD_int, tyD_str, tyD_tup, eBM_at, kbm1_some, kbm2_some, eSl_at, ks2_some, ks3_some, ks4_some, oNone_at, oSome_at, kSome_int, slO_str, sSeq_at, kSeq_nx, kSeq_rt, kSeq_bk, kSeq_ct, sNext_at, sBreak_at, sCont_at, sRetN_at, sRet_at, kRet_some, sExpr_at, kExpr_some, sSet_at, kSet_some, sIf_at, kIf_true, kIf_false, sPar2_k, kPar2_some, sPar3_k, kPar3_some, sAsg_at, kAsg_some, kAsg2_some, mName_at, mTup_2, mTup_3, mCons_at, kmCons_some, mNil_at, sPut_at, kp1_some, kp2_some, kp3_some, kp4_some, kFn_rt, kFn_nx, mkFn_0, mkFn_1, mkFn_2, mkFn_3, mkFn_4, mkFn_5, sWhile_at, List.getElem?_cons_zero, List.getElem?_cons_succ, List.set_cons_zero, List.set_cons_succ, List.replicate_succ, List.replicate_zero, Nat.reduceSub, Bool.not_true, Bool.not_false, ite_true, ite_false, if_true, if_false, reduceCtorEq, fldM_at, sFldM_at, kSF1_some, kSF2_some, kSF3_some, sFldAddM_at, kSA1_some, kSA2_int, eMake_at, kMk1_some, kMk2_some, isCM_at, isCO_non, eGet1_at, kG12_some, kG13_some, eGet2_at, kG22_some, kG23_some, eCallD_at, kCallD_some, eKdx_at, kKdx_some, kIsB_at, kEqE_at, kNeE_at, kInN_at, minF_at, dictF_at, atI0, atI1, eq_str, ixO_tup, lenO_tup, mTup_2, List.cons.injEq, Nat.reduceEqDiff, decide_false, decide_true, and_false, and_true, false_and, true_and, Bool.or_false, Bool.or_true, Bool.true_or, Bool.false_or, Bool.and_true, Bool.and_false, Bool.false_and, Bool.true_and, eReprC_at, kRep2_some, kRep3_some, Int.reduceLE, Int.reduceLT]
      by_cases h32 : c = 32
      · rw [decide_eq_true h32] at d32
        have ct : cutG (c :: r) (some 1) none = r := cut_tl (c :: r) 1 (by rw [List.length_cons]; omega)
        have S3 : (sIf (tOf (eBin kEq (eBin kIx (eVar 2) (eC (.int 0))) (eC (.str [32])))) (sSeq (sSet 2 (eSl (eVar 2) (oSome (eC (.int 1))) oNone))
    sCont) sNext) (lwr x0 (some (.ref p)) (some (.str (c :: r))) (some (.int (((c :: r).takeWhile isW).length : Nat))) (some .non) x5 x6 x7) st = some (.ct, lwr x0 (some (.ref p)) (some (.str r)) (some (.int (((c :: r).takeWhile isW).length : Nat))) (some .non) x5 x6 x7, st) := by
          simp only [eVar_at, kVar_some, eC_at, eBin_at, k2_some, k3_some, eUn_at, k1_some, kVal_some, kBl_some, kEq_at, kBlN_some, kNe_at, kIn_at, kNotIn_at, kIx_at, ixO_tup, kLt_int, kLe_int, kGt_int, kGe_int, kLt_str, kLe_str, kGt_str, kGe_str, kIs_non, kIs_bl, kIs_int, kIs_str, kIs_tup, kIs_ref, kIsNot_non, kIsNot_bl, kIsNot_int, kIsNot_str, kIsNot_tup, kIsNot_ref, opAdd_int, opAdd_str, opSub_int, opMul_int, opDiv_int, opMod_int, opPow_int, opAnd_int, opOr_int, opNeg_int, eChain_at, kc1_some, kc2_some, kc3_true, kc3_false, kc4_some, tOf_at, kTru_some, kTru2_some, truD_non, truD_bl, truD_int, truD_tup, tAnd_at, kAnd_true, kAnd_false, tOr_at, kOr_true, kOr_false, tNot_at, kNot_some, tYes_at, eAnd_at, keAnd_some, keAnd2_true, keAnd2_false, eOr_at, keOr_some, keOr2_true, keOr2_false, eNot_at, keNot_some, keNot2_some, eIf_at, keIf_true, keIf_false, aNil_at, aCons_at, ka1_some, ka2_some, eTup_at, kTup_0, kTup_1, kTup_2, kTup_3, kTup_4, kTup_5, kTup_6, eLst_at, kLst_0, kLst_1, kLst_2, kLst_3, kLst_4, eDic0_at, eCall_at, kCall_some, o1_at, isiO_at, kIsi_some, tyD_non, tyD_bl, tyD_int, tyD_str, tyD_tup, eBM_at, kbm1_some, kbm2_some, eSl_at, ks2_some, ks3_some, ks4_some, oNone_at, oSome_at, kSome_int, slO_str, sSeq_at, kSeq_nx, kSeq_rt, kSeq_bk, kSeq_ct, sNext_at, sBreak_at, sCont_at, sRetN_at, sRet_at, kRet_some, sExpr_at, kExpr_some, sSet_at, kSet_some, sIf_at, kIf_true, kIf_false, sPar2_k, kPar2_some, sPar3_k, kPar3_some, sAsg_at, kAsg_some, kAsg2_some, mName_at, mTup_2, mTup_3, mCons_at, kmCons_some, mNil_at, sPut_at, kp1_some, kp2_some, kp3_some, kp4_some, kFn_rt, kFn_nx, mkFn_0, mkFn_1, mkFn_2, mkFn_3, mkFn_4, mkFn_5, sWhile_at, List.getElem?_cons_zero, List.getElem?_cons_succ, List.set_cons_zero, List.set_cons_succ, List.replicate_succ, List.replicate_zero, Nat.reduceSub, Bool.not_true, Bool.not_false, ite_true, ite_false, if_true, if_false, reduceCtorEq, fldM_at, sFldM_at, kSF1_some, kSF2_some, kSF3_some, sFldAddM_at, kSA1_some, kSA2_int, eMake_at, kMk1_some, kMk2_some, isCM_at, isCO_non, eGet1_at, kG12_some, kG13_some, eGet2_at, kG22_some, kG23_some, eCallD_at, kCallD_some, eKdx_at, kKdx_some, kIsB_at, kEqE_at, kNeE_at, kInN_at, minF_at, dictF_at, atI0, atI1, eq_str, ixO_tup, lenO_tup, mTup_2, List.cons.injEq, Nat.reduceEqDiff, decide_false, decide_true, and_false, and_true, false_and, true_and, Bool.or_false, Bool.or_true, Bool.true_or, Bool.false_or, Bool.and_true, Bool.and_false, Bool.false_and, Bool.true_and, eReprC_at, kRep2_some, kRep3_some, Int.reduceLE, Int.reduceLT, ix0, d32, slO_str, lm, ct, -List.cons.injEq]
        have hu : uW_l_words_4 (lwr x0 (some (.ref p)) (some (.str (c :: r))) x3 x4 x5 x6 x7) st = some (.ct, lwr x0 (some (.ref p)) (some (.str r)) (some (.int (((c :: r).takeWhile isW).length : Nat))) (some .non) x5 x6 x7, st) := by
          unfold uW_l_words_4
          rw [sSeq_at, S0, kSeq_nx, sSeq_at, S1, kSeq_nx, sSeq_at, S2, kSeq_nx, sSeq_at, S3, kSeq_ct]
        obtain ⟨m, st', hm, ho, hh⟩ := lw_loop p x0 n r found st (some (.int (((c :: r).takeWhile isW).length : Nat))) (some .non) x5 x6 x7 (by omega) (by omega) (fun y hy => ha y (.tail _ hy)) hp (by omega)
        refine ⟨m + 1, st', by rw [List.length_cons]; omega, ho, ?_⟩
        have ew : wds (n + 1) (c :: r) = wds n r := by
          conv => lhs; unfold wds
          rw [if_neg h35, if_pos h32]
        rw [ew]
        rcases hh with ⟨ws, y2, y3, y4, y5, y6, y7, e1, e2, e3, e4⟩ | ⟨e1, ρ', e2⟩
        · refine .inl ⟨ws, y2, y3, y4, y5, y6, y7, e1, fun k => ?_, e3, by rw [List.length_cons]; omega⟩
          rw [show m + 1 + k = m + k + 1 by omega, loopW_ct ht hu]
          exact e2 k
        · refine .inr ⟨e1, ρ', fun k => ?_⟩
          rw [show m + 1 + k = m + k + 1 by omega, loopW_ct ht hu]
          exact e2 k
      · rw [decide_eq_false h32] at d32
        have S3 : (sIf (tOf (eBin kEq (eBin kIx (eVar 2) (eC (.int 0))) (eC (.str [32])))) (sSeq (sSet 2 (eSl (eVar 2) (oSome (eC (.int 1))) oNone))
    sCont) sNext) (lwr x0 (some (.ref p)) (some (.str (c :: r))) (some (.int (((c :: r).takeWhile isW).length : Nat))) (some .non) x5 x6 x7) st = some (.nx, lwr x0 (some (.ref p)) (some (.str (c :: r))) (some (.int (((c :: r).takeWhile isW).length : Nat))) (some .non) x5 x6 x7, st) := by
          simp only [eVar_at, kVar_some, eC_at, eBin_at, k2_some, k3_some, eUn_at, k1_some, kVal_some, kBl_some, kEq_at, kBlN_some, kNe_at, kIn_at, kNotIn_at, kIx_at, ixO_tup, kLt_int, kLe_int, kGt_int, kGe_int, kLt_str, kLe_str, kGt_str, kGe_str, kIs_non, kIs_bl, kIs_int, kIs_str, kIs_tup, kIs_ref, kIsNot_non, kIsNot_bl, kIsNot_int, kIsNot_str, kIsNot_tup, kIsNot_ref, opAdd_int, opAdd_str, opSub_int, opMul_int, opDiv_int, opMod_int, opPow_int, opAnd_int, opOr_int, opNeg_int, eChain_at, kc1_some, kc2_some, kc3_true, kc3_false, kc4_some, tOf_at, kTru_some, kTru2_some, truD_non, truD_bl, truD_int, truD_tup, tAnd_at, kAnd_true, kAnd_false, tOr_at, kOr_true, kOr_false, tNot_at, kNot_some, tYes_at, eAnd_at, keAnd_some, keAnd2_true, keAnd2_false, eOr_at, keOr_some, keOr2_true, keOr2_false, eNot_at, keNot_some, keNot2_some, eIf_at, keIf_true, keIf_false, aNil_at, aCons_at, ka1_some, ka2_some, eTup_at, kTup_0, kTup_1, kTup_2, kTup_3, kTup_4, kTup_5, kTup_6, eLst_at, kLst_0, kLst_1, kLst_2, kLst_3, kLst_4, eDic0_at, eCall_at, kCall_some, o1_at, isiO_at, kIsi_some, tyD_non, tyD_bl, tyD_int, tyD_str, tyD_tup, eBM_at, kbm1_some, kbm2_some, eSl_at, ks2_some, ks3_some, ks4_some, oNone_at, oSome_at, kSome_int, slO_str, sSeq_at, kSeq_nx, kSeq_rt, kSeq_bk, kSeq_ct, sNext_at, sBreak_at, sCont_at, sRetN_at, sRet_at, kRet_some, sExpr_at, kExpr_some, sSet_at, kSet_some, sIf_at, kIf_true, kIf_false, sPar2_k, kPar2_some, sPar3_k, kPar3_some, sAsg_at, kAsg_some, kAsg2_some, mName_at, mTup_2, mTup_3, mCons_at, kmCons_some, mNil_at, sPut_at, kp1_some, kp2_some, kp3_some, kp4_some, kFn_rt, kFn_nx, mkFn_0, mkFn_1, mkFn_2, mkFn_3, mkFn_4, mkFn_5, sWhile_at, List.getElem?_cons_zero, List.getElem?_cons_succ, List.set_cons_zero, List.set_cons_succ, List.replicate_succ, List.replicate_zero, Nat.reduceSub, Bool.not_true, Bool.not_false, ite_true, ite_false, if_true, if_false, reduceCtorEq, fldM_at, sFldM_at, kSF1_some, kSF2_some, kSF3_some, sFldAddM_at, kSA1_some, kSA2_int, eMake_at, kMk1_some, kMk2_some, isCM_at, isCO_non, eGet1_at, kG12_some, kG13_some, eGet2_at, kG22_some, kG23_some, eCallD_at, kCallD_some, eKdx_at, kKdx_some, kIsB_at, kEqE_at, kNeE_at, kInN_at, minF_at, dictF_at, atI0, atI1, eq_str, ixO_tup, lenO_tup, mTup_2, List.cons.injEq, Nat.reduceEqDiff, decide_false, decide_true, and_false, and_true, false_and, true_and, Bool.or_false, Bool.or_true, Bool.true_or, Bool.false_or, Bool.and_true, Bool.and_false, Bool.false_and, Bool.true_and, eReprC_at, kRep2_some, kRep3_some, Int.reduceLE, Int.reduceLT, ix0, d32, -List.cons.injEq]
        obtain ⟨k0, y5, y6, y7, g, S4, hk0⟩ := br_ok c r hl ha st x0 (some (.ref p)) x5 x6 x7
        have ew : wds (n + 1) (c :: r) = match word1 c r with
            | none => none
            | some (w, k) => (wds n ((c :: r).drop k)).map fun ws => w :: ws := by
          conv => lhs; unfold wds
          rw [if_neg h35, if_neg h32] <;> rfl
        cases hw : word1 c r with
        | none =>
          rw [hw] at S4 ew
          have S4' : (sIf (tOf (eBin kGt (eVar 3) (eC (.int 0)))) (sSet 4 (eCall F_l_run (aCons (eSl (eVar 2) oNone (oSome (eVar 3))) aNil))) (sIf (tOf (eBin kEq (eBin kIx (eVar 2) (eC (.int 0))) (eC (.str [34])))) (sSeq (sAsg (eBM isS partM (eSl (eVar 2) (oSome (eC (.int 1))) oNone) (aCons (eC (.str [34])) aNil)) (mTup 3 (mCons (mName 5) (mCons (mName 6) (mCons (mName 7) mNil)))))
    (sSeq (sSet 3 (eBin opAdd (eCall (o1 lenO) (aCons (eVar 5) aNil)) (eC (.int 2))))
    (sIf (tAnd (tOf (eBin kNe (eVar 6) (eC (.str [])))) (tOf (eBin kLt (eCall (o1 lenO) (aCons (eVar 5) aNil)) (eC (.int 41))))) (sSet 4 (eTup (aCons (eC (.str [116, 101, 120, 116])) (aCons (eVar 5) aNil)))) sNext))) (sSeq (sSet 3 (eBin opAdd (eC (.int 1)) (eCall (o1 intO) (aCons (eBin (kIn false) (eSl (eVar 2) oNone (oSome (eC (.int 2)))) (eTup (aCons (eC (.str [47, 47])) (aCons (eC (.str [60, 61])) (aCons (eC (.str [62, 61])) (aCons (eC (.str [61, 61])) (aCons (eC (.str [33, 61])) (aCons (eC (.str [43, 61])) (aCons (eC (.str [45, 61])) (aCons (eC (.str [42, 61])) aNil)))))))))) aNil))))
    (sIf (tOr (tOf (eBin kEq (eVar 3) (eC (.int 2)))) (tOf (eBin (kIn false) (eBin kIx (eVar 2) (eC (.int 0))) (eC (.str [43, 45, 42, 38, 124, 60, 62, 61, 40, 41, 44, 46, 58]))))) (sSet 4 (eTup (aCons (eC (.str [109, 97, 114, 107])) (aCons (eSl (eVar 2) oNone (oSome (eVar 3))) aNil)))) sNext)))) (lwr x0 (some (.ref p)) (some (.str (c :: r))) (some (.int (((c :: r).takeWhile isW).length : Nat))) (some .non) x5 x6 x7) st = some (.nx, lwr x0 (some (.ref p)) (some (.str (c :: r))) (some (.int ((k0 : Nat) : Int))) (some .non) y5 y6 y7, st ++ g) := S4
          have S5 : (sIf (tOf (eBin kIs (eVar 4) (eC .non))) (sRet (eC .non)) sNext) (lwr x0 (some (.ref p)) (some (.str (c :: r))) (some (.int ((k0 : Nat) : Int))) (some .non) y5 y6 y7) (st ++ g) = some (.rt .non, lwr x0 (some (.ref p)) (some (.str (c :: r))) (some (.int ((k0 : Nat) : Int))) (some .non) y5 y6 y7, st ++ g) := by
            simp only [eVar_at, kVar_some, eC_at, eBin_at, k2_some, k3_some, eUn_at, k1_some, kVal_some, kBl_some, kEq_at, kBlN_some, kNe_at, kIn_at, kNotIn_at, kIx_at, ixO_tup, kLt_int, kLe_int, kGt_int, kGe_int, kLt_str, kLe_str, kGt_str, kGe_str, kIs_non, kIs_bl, kIs_int, kIs_str, kIs_tup, kIs_ref, kIsNot_non, kIsNot_bl, kIsNot_int, kIsNot_str, kIsNot_tup, kIsNot_ref, opAdd_int, opAdd_str, opSub_int, opMul_int, opDiv_int, opMod_int, opPow_int, opAnd_int, opOr_int, opNeg_int, eChain_at, kc1_some, kc2_some, kc3_true, kc3_false, kc4_some, tOf_at, kTru_some, kTru2_some, truD_non, truD_bl, truD_int, truD_tup, tAnd_at, kAnd_true, kAnd_false, tOr_at, kOr_true, kOr_false, tNot_at, kNot_some, tYes_at, eAnd_at, keAnd_some, keAnd2_true, keAnd2_false, eOr_at, keOr_some, keOr2_true, keOr2_false, eNot_at, keNot_some, keNot2_some, eIf_at, keIf_true, keIf_false, aNil_at, aCons_at, ka1_some, ka2_some, eTup_at, kTup_0, kTup_1, kTup_2, kTup_3, kTup_4, kTup_5, kTup_6, eLst_at, kLst_0, kLst_1, kLst_2, kLst_3, kLst_4, eDic0_at, eCall_at, kCall_some, o1_at, isiO_at, kIsi_some, tyD_non, tyD_bl, tyD_int, tyD_str, tyD_tup, eBM_at, kbm1_some, kbm2_some, eSl_at, ks2_some, ks3_some, ks4_some, oNone_at, oSome_at, kSome_int, slO_str, sSeq_at, kSeq_nx, kSeq_rt, kSeq_bk, kSeq_ct, sNext_at, sBreak_at, sCont_at, sRetN_at, sRet_at, kRet_some, sExpr_at, kExpr_some, sSet_at, kSet_some, sIf_at, kIf_true, kIf_false, sPar2_k, kPar2_some, sPar3_k, kPar3_some, sAsg_at, kAsg_some, kAsg2_some, mName_at, mTup_2, mTup_3, mCons_at, kmCons_some, mNil_at, sPut_at, kp1_some, kp2_some, kp3_some, kp4_some, kFn_rt, kFn_nx, mkFn_0, mkFn_1, mkFn_2, mkFn_3, mkFn_4, mkFn_5, sWhile_at, List.getElem?_cons_zero, List.getElem?_cons_succ, List.set_cons_zero, List.set_cons_succ, List.replicate_succ, List.replicate_zero, Nat.reduceSub, Bool.not_true, Bool.not_false, ite_true, ite_false, if_true, if_false, reduceCtorEq, fldM_at, sFldM_at, kSF1_some, kSF2_some, kSF3_some, sFldAddM_at, kSA1_some, kSA2_int, eMake_at, kMk1_some, kMk2_some, isCM_at, isCO_non, eGet1_at, kG12_some, kG13_some, eGet2_at, kG22_some, kG23_some, eCallD_at, kCallD_some, eKdx_at, kKdx_some, kIsB_at, kEqE_at, kNeE_at, kInN_at, minF_at, dictF_at, atI0, atI1, eq_str, ixO_tup, lenO_tup, mTup_2, List.cons.injEq, Nat.reduceEqDiff, decide_false, decide_true, and_false, and_true, false_and, true_and, Bool.or_false, Bool.or_true, Bool.true_or, Bool.false_or, Bool.and_true, Bool.and_false, Bool.false_and, Bool.true_and, eReprC_at, kRep2_some, kRep3_some, Int.reduceLE, Int.reduceLT]
          refine ⟨1, st ++ g, by rw [List.length_cons]; omega, Only.grow, .inr ⟨ew, lwr x0 (some (.ref p)) (some (.str (c :: r))) (some (.int ((k0 : Nat) : Int))) (some .non) y5 y6 y7, fun k => ?_⟩⟩
          rw [Nat.add_comm 1 k]
          refine loopW_rt ht ?_
          unfold uW_l_words_4
          rw [sSeq_at, S0, kSeq_nx, sSeq_at, S1, kSeq_nx, sSeq_at, S2, kSeq_nx, sSeq_at, S3, kSeq_nx, sSeq_at, S4', kSeq_nx, sSeq_at, S5, kSeq_rt]
        | some q =>
          obtain ⟨w, k1⟩ := q
          have hk := hk0 _ hw
          have hk' : k1 = k0 := hk
          subst hk'
          obtain ⟨q1, q2⟩ := word1_len hw
          rw [hw] at S4 ew
          have ew2 : wds (n + 1) (c :: r) = (wds n ((c :: r).drop k1)).map fun ws => w :: ws := ew
          have S4' : (sIf (tOf (eBin kGt (eVar 3) (eC (.int 0)))) (sSet 4 (eCall F_l_run (aCons (eSl (eVar 2) oNone (oSome (eVar 3))) aNil))) (sIf (tOf (eBin kEq (eBin kIx (eVar 2) (eC (.int 0))) (eC (.str [34])))) (sSeq (sAsg (eBM isS partM (eSl (eVar 2) (oSome (eC (.int 1))) oNone) (aCons (eC (.str [34])) aNil)) (mTup 3 (mCons (mName 5) (mCons (mName 6) (mCons (mName 7) mNil)))))
    (sSeq (sSet 3 (eBin opAdd (eCall (o1 lenO) (aCons (eVar 5) aNil)) (eC (.int 2))))
    (sIf (tAnd (tOf (eBin kNe (eVar 6) (eC (.str [])))) (tOf (eBin kLt (eCall (o1 lenO) (aCons (eVar 5) aNil)) (eC (.int 41))))) (sSet 4 (eTup (aCons (eC (.str [116, 101, 120, 116])) (aCons (eVar 5) aNil)))) sNext))) (sSeq (sSet 3 (eBin opAdd (eC (.int 1)) (eCall (o1 intO) (aCons (eBin (kIn false) (eSl (eVar 2) oNone (oSome (eC (.int 2)))) (eTup (aCons (eC (.str [47, 47])) (aCons (eC (.str [60, 61])) (aCons (eC (.str [62, 61])) (aCons (eC (.str [61, 61])) (aCons (eC (.str [33, 61])) (aCons (eC (.str [43, 61])) (aCons (eC (.str [45, 61])) (aCons (eC (.str [42, 61])) aNil)))))))))) aNil))))
    (sIf (tOr (tOf (eBin kEq (eVar 3) (eC (.int 2)))) (tOf (eBin (kIn false) (eBin kIx (eVar 2) (eC (.int 0))) (eC (.str [43, 45, 42, 38, 124, 60, 62, 61, 40, 41, 44, 46, 58]))))) (sSet 4 (eTup (aCons (eC (.str [109, 97, 114, 107])) (aCons (eSl (eVar 2) oNone (oSome (eVar 3))) aNil)))) sNext)))) (lwr x0 (some (.ref p)) (some (.str (c :: r))) (some (.int (((c :: r).takeWhile isW).length : Nat))) (some .non) x5 x6 x7) st = some (.nx, lwr x0 (some (.ref p)) (some (.str (c :: r))) (some (.int ((k1 : Nat) : Int))) (some w.d) y5 y6 y7, st ++ g) := S4
          have kn := wd_isnon w (st ++ g)
          have S5 : (sIf (tOf (eBin kIs (eVar 4) (eC .non))) (sRet (eC .non)) sNext) (lwr x0 (some (.ref p)) (some (.str (c :: r))) (some (.int ((k1 : Nat) : Int))) (some w.d) y5 y6 y7) (st ++ g) = some (.nx, lwr x0 (some (.ref p)) (some (.str (c :: r))) (some (.int ((k1 : Nat) : Int))) (some w.d) y5 y6 y7, st ++ g) := by
            simp only [eVar_at, kVar_some, eC_at, eBin_at, k2_some, k3_some, eUn_at, k1_some, kVal_some, kBl_some, kEq_at, kBlN_some, kNe_at, kIn_at, kNotIn_at, kIx_at, ixO_tup, kLt_int, kLe_int, kGt_int, kGe_int, kLt_str, kLe_str, kGt_str, kGe_str, kIs_non, kIs_bl, kIs_int, kIs_str, kIs_tup, kIs_ref, kIsNot_non, kIsNot_bl, kIsNot_int, kIsNot_str, kIsNot_tup, kIsNot_ref, opAdd_int, opAdd_str, opSub_int, opMul_int, opDiv_int, opMod_int, opPow_int, opAnd_int, opOr_int, opNeg_int, eChain_at, kc1_some, kc2_some, kc3_true, kc3_false, kc4_some, tOf_at, kTru_some, kTru2_some, truD_non, truD_bl, truD_int, truD_tup, tAnd_at, kAnd_true, kAnd_false, tOr_at, kOr_true, kOr_false, tNot_at, kNot_some, tYes_at, eAnd_at, keAnd_some, keAnd2_true, keAnd2_false, eOr_at, keOr_some, keOr2_true, keOr2_false, eNot_at, keNot_some, keNot2_some, eIf_at, keIf_true, keIf_false, aNil_at, aCons_at, ka1_some, ka2_some, eTup_at, kTup_0, kTup_1, kTup_2, kTup_3, kTup_4, kTup_5, kTup_6, eLst_at, kLst_0, kLst_1, kLst_2, kLst_3, kLst_4, eDic0_at, eCall_at, kCall_some, o1_at, isiO_at, kIsi_some, tyD_non, tyD_bl, tyD_int, tyD_str, tyD_tup, eBM_at, kbm1_some, kbm2_some, eSl_at, ks2_some, ks3_some, ks4_some, oNone_at, oSome_at, kSome_int, slO_str, sSeq_at, kSeq_nx, kSeq_rt, kSeq_bk, kSeq_ct, sNext_at, sBreak_at, sCont_at, sRetN_at, sRet_at, kRet_some, sExpr_at, kExpr_some, sSet_at, kSet_some, sIf_at, kIf_true, kIf_false, sPar2_k, kPar2_some, sPar3_k, kPar3_some, sAsg_at, kAsg_some, kAsg2_some, mName_at, mTup_2, mTup_3, mCons_at, kmCons_some, mNil_at, sPut_at, kp1_some, kp2_some, kp3_some, kp4_some, kFn_rt, kFn_nx, mkFn_0, mkFn_1, mkFn_2, mkFn_3, mkFn_4, mkFn_5, sWhile_at, List.getElem?_cons_zero, List.getElem?_cons_succ, List.set_cons_zero, List.set_cons_succ, List.replicate_succ, List.replicate_zero, Nat.reduceSub, Bool.not_true, Bool.not_false, ite_true, ite_false, if_true, if_false, reduceCtorEq, fldM_at, sFldM_at, kSF1_some, kSF2_some, kSF3_some, sFldAddM_at, kSA1_some, kSA2_int, eMake_at, kMk1_some, kMk2_some, isCM_at, isCO_non, eGet1_at, kG12_some, kG13_some, eGet2_at, kG22_some, kG23_some, eCallD_at, kCallD_some, eKdx_at, kKdx_some, kIsB_at, kEqE_at, kNeE_at, kInN_at, minF_at, dictF_at, atI0, atI1, eq_str, ixO_tup, lenO_tup, mTup_2, List.cons.injEq, Nat.reduceEqDiff, decide_false, decide_true, and_false, and_true, false_and, true_and, Bool.or_false, Bool.or_true, Bool.true_or, Bool.false_or, Bool.and_true, Bool.and_false, Bool.false_and, Bool.true_and, eReprC_at, kRep2_some, kRep3_some, Int.reduceLE, Int.reduceLT, kn]
          obtain ⟨a1, a2, a3⟩ := app_d (get_grow (g := g) hp) (by rw [List.length_map]; omega) w.d
          have a4 : ((st ++ g).set p (.lst (found.map Wo.d ++ [w.d])))[p]? = some (.lst ((found ++ [w]).map Wo.d)) := by
            rw [List.map_append]
            exact a3
          have S6 : (sExpr (eBM isL appM (eVar 1) (aCons (eVar 4) aNil))) (lwr x0 (some (.ref p)) (some (.str (c :: r))) (some (.int ((k1 : Nat) : Int))) (some w.d) y5 y6 y7) (st ++ g) = some (.nx, lwr x0 (some (.ref p)) (some (.str (c :: r))) (some (.int ((k1 : Nat) : Int))) (some w.d) y5 y6 y7, (st ++ g).set p (.lst (found.map Wo.d ++ [w.d]))) := by
            simp only [eVar_at, kVar_some, eC_at, eBin_at, k2_some, k3_some, eUn_at, k1_some, kVal_some, kBl_some, kEq_at, kBlN_some, kNe_at, kIn_at, kNotIn_at, kIx_at, ixO_tup, kLt_int, kLe_int, kGt_int, kGe_int, kLt_str, kLe_str, kGt_str, kGe_str, kIs_non, kIs_bl, kIs_int, kIs_str, kIs_tup, kIs_ref, kIsNot_non, kIsNot_bl, kIsNot_int, kIsNot_str, kIsNot_tup, kIsNot_ref, opAdd_int, opAdd_str, opSub_int, opMul_int, opDiv_int, opMod_int, opPow_int, opAnd_int, opOr_int, opNeg_int, eChain_at, kc1_some, kc2_some, kc3_true, kc3_false, kc4_some, tOf_at, kTru_some, kTru2_some, truD_non, truD_bl, truD_int, truD_tup, tAnd_at, kAnd_true, kAnd_false, tOr_at, kOr_true, kOr_false, tNot_at, kNot_some, tYes_at, eAnd_at, keAnd_some, keAnd2_true, keAnd2_false, eOr_at, keOr_some, keOr2_true, keOr2_false, eNot_at, keNot_some, keNot2_some, eIf_at, keIf_true, keIf_false, aNil_at, aCons_at, ka1_some, ka2_some, eTup_at, kTup_0, kTup_1, kTup_2, kTup_3, kTup_4, kTup_5, kTup_6, eLst_at, kLst_0, kLst_1, kLst_2, kLst_3, kLst_4, eDic0_at, eCall_at, kCall_some, o1_at, isiO_at, kIsi_some, tyD_non, tyD_bl, tyD_int, tyD_str, tyD_tup, eBM_at, kbm1_some, kbm2_some, eSl_at, ks2_some, ks3_some, ks4_some, oNone_at, oSome_at, kSome_int, slO_str, sSeq_at, kSeq_nx, kSeq_rt, kSeq_bk, kSeq_ct, sNext_at, sBreak_at, sCont_at, sRetN_at, sRet_at, kRet_some, sExpr_at, kExpr_some, sSet_at, kSet_some, sIf_at, kIf_true, kIf_false, sPar2_k, kPar2_some, sPar3_k, kPar3_some, sAsg_at, kAsg_some, kAsg2_some, mName_at, mTup_2, mTup_3, mCons_at, kmCons_some, mNil_at, sPut_at, kp1_some, kp2_some, kp3_some, kp4_some, kFn_rt, kFn_nx, mkFn_0, mkFn_1, mkFn_2, mkFn_3, mkFn_4, mkFn_5, sWhile_at, List.getElem?_cons_zero, List.getElem?_cons_succ, List.set_cons_zero, List.set_cons_succ, List.replicate_succ, List.replicate_zero, Nat.reduceSub, Bool.not_true, Bool.not_false, ite_true, ite_false, if_true, if_false, reduceCtorEq, fldM_at, sFldM_at, kSF1_some, kSF2_some, kSF3_some, sFldAddM_at, kSA1_some, kSA2_int, eMake_at, kMk1_some, kMk2_some, isCM_at, isCO_non, eGet1_at, kG12_some, kG13_some, eGet2_at, kG22_some, kG23_some, eCallD_at, kCallD_some, eKdx_at, kKdx_some, kIsB_at, kEqE_at, kNeE_at, kInN_at, minF_at, dictF_at, atI0, atI1, eq_str, ixO_tup, lenO_tup, mTup_2, List.cons.injEq, Nat.reduceEqDiff, decide_false, decide_true, and_false, and_true, false_and, true_and, Bool.or_false, Bool.or_true, Bool.true_or, Bool.false_or, Bool.and_true, Bool.and_false, Bool.false_and, Bool.true_and, eReprC_at, kRep2_some, kRep3_some, Int.reduceLE, Int.reduceLT, a2, a1]
          have ct := cut_tl (c :: r) k1 (by rw [List.length_cons]; omega)
          have S7 : (sSet 2 (eSl (eVar 2) (oSome (eVar 3)) oNone)) (lwr x0 (some (.ref p)) (some (.str (c :: r))) (some (.int ((k1 : Nat) : Int))) (some w.d) y5 y6 y7) ((st ++ g).set p (.lst (found.map Wo.d ++ [w.d]))) = some (.nx, lwr x0 (some (.ref p)) (some (.str ((c :: r).drop k1))) (some (.int ((k1 : Nat) : Int))) (some w.d) y5 y6 y7, (st ++ g).set p (.lst (found.map Wo.d ++ [w.d]))) := by
            simp only [eVar_at, kVar_some, eC_at, eBin_at, k2_some, k3_some, eUn_at, k1_some, kVal_some, kBl_some, kEq_at, kBlN_some, kNe_at, kIn_at, kNotIn_at, kIx_at, ixO_tup, kLt_int, kLe_int, kGt_int, kGe_int, kLt_str, kLe_str, kGt_str, kGe_str, kIs_non, kIs_bl, kIs_int, kIs_str, kIs_tup, kIs_ref, kIsNot_non, kIsNot_bl, kIsNot_int, kIsNot_str, kIsNot_tup, kIsNot_ref, opAdd_int, opAdd_str, opSub_int, opMul_int, opDiv_int, opMod_int, opPow_int, opAnd_int, opOr_int, opNeg_int, eChain_at, kc1_some, kc2_some, kc3_true, kc3_false, kc4_some, tOf_at, kTru_some, kTru2_some, truD_non, truD_bl, truD_int, truD_tup, tAnd_at, kAnd_true, kAnd_false, tOr_at, kOr_true, kOr_false, tNot_at, kNot_some, tYes_at, eAnd_at, keAnd_some, keAnd2_true, keAnd2_false, eOr_at, keOr_some, keOr2_true, keOr2_false, eNot_at, keNot_some, keNot2_some, eIf_at, keIf_true, keIf_false, aNil_at, aCons_at, ka1_some, ka2_some, eTup_at, kTup_0, kTup_1, kTup_2, kTup_3, kTup_4, kTup_5, kTup_6, eLst_at, kLst_0, kLst_1, kLst_2, kLst_3, kLst_4, eDic0_at, eCall_at, kCall_some, o1_at, isiO_at, kIsi_some, tyD_non, tyD_bl, tyD_int, tyD_str, tyD_tup, eBM_at, kbm1_some, kbm2_some, eSl_at, ks2_some, ks3_some, ks4_some, oNone_at, oSome_at, kSome_int, slO_str, sSeq_at, kSeq_nx, kSeq_rt, kSeq_bk, kSeq_ct, sNext_at, sBreak_at, sCont_at, sRetN_at, sRet_at, kRet_some, sExpr_at, kExpr_some, sSet_at, kSet_some, sIf_at, kIf_true, kIf_false, sPar2_k, kPar2_some, sPar3_k, kPar3_some, sAsg_at, kAsg_some, kAsg2_some, mName_at, mTup_2, mTup_3, mCons_at, kmCons_some, mNil_at, sPut_at, kp1_some, kp2_some, kp3_some, kp4_some, kFn_rt, kFn_nx, mkFn_0, mkFn_1, mkFn_2, mkFn_3, mkFn_4, mkFn_5, sWhile_at, List.getElem?_cons_zero, List.getElem?_cons_succ, List.set_cons_zero, List.set_cons_succ, List.replicate_succ, List.replicate_zero, Nat.reduceSub, Bool.not_true, Bool.not_false, ite_true, ite_false, if_true, if_false, reduceCtorEq, fldM_at, sFldM_at, kSF1_some, kSF2_some, kSF3_some, sFldAddM_at, kSA1_some, kSA2_int, eMake_at, kMk1_some, kMk2_some, isCM_at, isCO_non, eGet1_at, kG12_some, kG13_some, eGet2_at, kG22_some, kG23_some, eCallD_at, kCallD_some, eKdx_at, kKdx_some, kIsB_at, kEqE_at, kNeE_at, kInN_at, minF_at, dictF_at, atI0, atI1, eq_str, ixO_tup, lenO_tup, mTup_2, List.cons.injEq, Nat.reduceEqDiff, decide_false, decide_true, and_false, and_true, false_and, true_and, Bool.or_false, Bool.or_true, Bool.true_or, Bool.false_or, Bool.and_true, Bool.and_false, Bool.false_and, Bool.true_and, eReprC_at, kRep2_some, kRep3_some, Int.reduceLE, Int.reduceLT, slO_str, lm, ct]
          have hu : uW_l_words_4 (lwr x0 (some (.ref p)) (some (.str (c :: r))) x3 x4 x5 x6 x7) st = some (.nx, lwr x0 (some (.ref p)) (some (.str ((c :: r).drop k1))) (some (.int ((k1 : Nat) : Int))) (some w.d) y5 y6 y7, (st ++ g).set p (.lst (found.map Wo.d ++ [w.d]))) := by
            unfold uW_l_words_4
            rw [sSeq_at, S0, kSeq_nx, sSeq_at, S1, kSeq_nx, sSeq_at, S2, kSeq_nx, sSeq_at, S3, kSeq_nx, sSeq_at, S4', kSeq_nx, sSeq_at, S5, kSeq_nx, sSeq_at, S6, kSeq_nx, S7]
          have dl : ((c :: r).drop k1).length = r.length + 1 - k1 := by rw [List.length_drop, List.length_cons]
          obtain ⟨m, st', hm, ho, hh⟩ := lw_loop p x0 n ((c :: r).drop k1) (found ++ [w]) ((st ++ g).set p (.lst (found.map Wo.d ++ [w.d]))) (some (.int ((k1 : Nat) : Int))) (some w.d) y5 y6 y7 (by omega) (by omega) (fun y hy => ha y (List.mem_of_mem_drop hy)) a4 (by rw [List.length_append, List.length_singleton]; omega)
          refine ⟨m + 1, st', by rw [List.length_cons]; omega, (Only.grow.trans (Only.set (.head _))).trans ho, ?_⟩
          rcases hh with ⟨ws, z2, z3, z4, z5, z6, z7, e1, e2, e3, e4⟩ | ⟨e1, ρ', e2⟩
          · refine .inl ⟨w :: ws, z2, z3, z4, z5, z6, z7, by rw [ew2, e1]; rfl, fun k => ?_, by rw [e3, List.append_assoc]; rfl, by rw [List.length_cons, List.length_cons]; omega⟩
            rw [show m + 1 + k = m + k + 1 by omega, loopW_go ht hu]
            exact e2 k
          · refine .inr ⟨by rw [ew2, e1]; rfl, ρ', fun k => ?_⟩
            rw [show m + 1 + k = m + k + 1 by omega, loopW_go ht hu]
            exact e2 k
theorem lwords_is {l : List Nat} (hl : l.length ≤ 50000) (ha : ∀ c ∈ l, c < 128) (st : Sto) : ∃ d st', F_l_words [.str l] st = some (d, st') ∧ Tells (wds (l.length + 1) l) st st' d := by
  obtain ⟨m, st', hm, ho, hh⟩ := lw_loop st.length (some (.str l)) (l.length + 1) l [] (st ++ [.lst []]) none none none none none (by omega) hl ha (at_end _ _ []) (by simpa using hl)
  have ho2 : Only [] st st' := fun i x hi e => by
    have il : i < st.length := (List.getElem?_eq_some_iff.mp e).1
    exact ho i x (fun z => by have := List.mem_singleton.mp z; omega) (get_grow e)
  rcases hh with ⟨ws, y2, y3, y4, y5, y6, y7, e1, e2, e3, e4⟩ | ⟨e1, ρ', e2⟩
  · have w := sWhile_of (t := tW_l_words_3) (u := uW_l_words_4) (n := m) (fuel_ok (by omega)) e2
    rw [List.nil_append] at e3
    refine ⟨.ref st.length, st', ?_, ho2, .inl ⟨ws, st.length, e1, rfl, e3, Nat.le_refl _, by omega⟩⟩
    simp only [F_l_words, b_l_words, eVar_at, kVar_some, eC_at, eBin_at, k2_some, k3_some, eUn_at, k1_some, kVal_some, kBl_some, kEq_at, kBlN_some, kNe_at, kIn_at, kNotIn_at, kIx_at, ixO_tup, kLt_int, kLe_int, kGt_int, kGe_int, kLt_str, kLe_str, kGt_str, kGe_str, kIs_non, kIs_bl, kIs_int, kIs_str, kIs_tup, kIs_ref, kIsNot_non, kIsNot_bl, kIsNot_int, kIsNot_str, kIsNot_tup, kIsNot_ref, opAdd_int, opAdd_str, opSub_int, opMul_int, opDiv_int, opMod_int, opPow_int, opAnd_int, opOr_int, opNeg_int, eChain_at, kc1_some, kc2_some, kc3_true, kc3_false, kc4_some, tOf_at, kTru_some, kTru2_some, truD_non, truD_bl, truD_int, truD_tup, tAnd_at, kAnd_true, kAnd_false, tOr_at, kOr_true, kOr_false, tNot_at, kNot_some, tYes_at, eAnd_at, keAnd_some, keAnd2_true, keAnd2_false, eOr_at, keOr_some, keOr2_true, keOr2_false, eNot_at, keNot_some, keNot2_some, eIf_at, keIf_true, keIf_false, aNil_at, aCons_at, ka1_some, ka2_some, eTup_at, kTup_0, kTup_1, kTup_2, kTup_3, kTup_4, kTup_5, kTup_6, eLst_at, kLst_0, kLst_1, kLst_2, kLst_3, kLst_4, eDic0_at, eCall_at, kCall_some, o1_at, isiO_at, kIsi_some, tyD_non, tyD_bl, tyD_int, tyD_str, tyD_tup, eBM_at, kbm1_some, kbm2_some, eSl_at, ks2_some, ks3_some, ks4_some, oNone_at, oSome_at, kSome_int, slO_str, sSeq_at, kSeq_nx, kSeq_rt, kSeq_bk, kSeq_ct, sNext_at, sBreak_at, sCont_at, sRetN_at, sRet_at, kRet_some, sExpr_at, kExpr_some, sSet_at, kSet_some, sIf_at, kIf_true, kIf_false, sPar2_k, kPar2_some, sPar3_k, kPar3_some, sAsg_at, kAsg_some, kAsg2_some, mName_at, mTup_2, mTup_3, mCons_at, kmCons_some, mNil_at, sPut_at, kp1_some, kp2_some, kp3_some, kp4_some, kFn_rt, kFn_nx, mkFn_0, mkFn_1, mkFn_2, mkFn_3, mkFn_4, mkFn_5, sWhile_at, List.getElem?_cons_zero, List.getElem?_cons_succ, List.set_cons_zero, List.set_cons_succ, List.replicate_succ, List.replicate_zero, Nat.reduceSub, Bool.not_true, Bool.not_false, ite_true, ite_false, if_true, if_false, reduceCtorEq, fldM_at, sFldM_at, kSF1_some, kSF2_some, kSF3_some, sFldAddM_at, kSA1_some, kSA2_int, eMake_at, kMk1_some, kMk2_some, isCM_at, isCO_non, eGet1_at, kG12_some, kG13_some, eGet2_at, kG22_some, kG23_some, eCallD_at, kCallD_some, eKdx_at, kKdx_some, kIsB_at, kEqE_at, kNeE_at, kInN_at, minF_at, dictF_at, atI0, atI1, eq_str, ixO_tup, lenO_tup, mTup_2, List.cons.injEq, Nat.reduceEqDiff, decide_false, decide_true, and_false, and_true, false_and, true_and, Bool.or_false, Bool.or_true, Bool.true_or, Bool.false_or, Bool.and_true, Bool.and_false, Bool.false_and, Bool.true_and, eReprC_at, kRep2_some, kRep3_some, Int.reduceLE, Int.reduceLT, w, -sWhile_at]
  · have w := sWhile_of (t := tW_l_words_3) (u := uW_l_words_4) (n := m) (fuel_ok (by omega)) e2
    refine ⟨.non, st', ?_, ho2, .inr ⟨e1, rfl⟩⟩
    simp only [F_l_words, b_l_words, eVar_at, kVar_some, eC_at, eBin_at, k2_some, k3_some, eUn_at, k1_some, kVal_some, kBl_some, kEq_at, kBlN_some, kNe_at, kIn_at, kNotIn_at, kIx_at, ixO_tup, kLt_int, kLe_int, kGt_int, kGe_int, kLt_str, kLe_str, kGt_str, kGe_str, kIs_non, kIs_bl, kIs_int, kIs_str, kIs_tup, kIs_ref, kIsNot_non, kIsNot_bl, kIsNot_int, kIsNot_str, kIsNot_tup, kIsNot_ref, opAdd_int, opAdd_str, opSub_int, opMul_int, opDiv_int, opMod_int, opPow_int, opAnd_int, opOr_int, opNeg_int, eChain_at, kc1_some, kc2_some, kc3_true, kc3_false, kc4_some, tOf_at, kTru_some, kTru2_some, truD_non, truD_bl, truD_int, truD_tup, tAnd_at, kAnd_true, kAnd_false, tOr_at, kOr_true, kOr_false, tNot_at, kNot_some, tYes_at, eAnd_at, keAnd_some, keAnd2_true, keAnd2_false, eOr_at, keOr_some, keOr2_true, keOr2_false, eNot_at, keNot_some, keNot2_some, eIf_at, keIf_true, keIf_false, aNil_at, aCons_at, ka1_some, ka2_some, eTup_at, kTup_0, kTup_1, kTup_2, kTup_3, kTup_4, kTup_5, kTup_6, eLst_at, kLst_0, kLst_1, kLst_2, kLst_3, kLst_4, eDic0_at, eCall_at, kCall_some, o1_at, isiO_at, kIsi_some, tyD_non, tyD_bl, tyD_int, tyD_str, tyD_tup, eBM_at, kbm1_some, kbm2_some, eSl_at, ks2_some, ks3_some, ks4_some, oNone_at, oSome_at, kSome_int, slO_str, sSeq_at, kSeq_nx, kSeq_rt, kSeq_bk, kSeq_ct, sNext_at, sBreak_at, sCont_at, sRetN_at, sRet_at, kRet_some, sExpr_at, kExpr_some, sSet_at, kSet_some, sIf_at, kIf_true, kIf_false, sPar2_k, kPar2_some, sPar3_k, kPar3_some, sAsg_at, kAsg_some, kAsg2_some, mName_at, mTup_2, mTup_3, mCons_at, kmCons_some, mNil_at, sPut_at, kp1_some, kp2_some, kp3_some, kp4_some, kFn_rt, kFn_nx, mkFn_0, mkFn_1, mkFn_2, mkFn_3, mkFn_4, mkFn_5, sWhile_at, List.getElem?_cons_zero, List.getElem?_cons_succ, List.set_cons_zero, List.set_cons_succ, List.replicate_succ, List.replicate_zero, Nat.reduceSub, Bool.not_true, Bool.not_false, ite_true, ite_false, if_true, if_false, reduceCtorEq, fldM_at, sFldM_at, kSF1_some, kSF2_some, kSF3_some, sFldAddM_at, kSA1_some, kSA2_int, eMake_at, kMk1_some, kMk2_some, isCM_at, isCO_non, eGet1_at, kG12_some, kG13_some, eGet2_at, kG22_some, kG23_some, eCallD_at, kCallD_some, eKdx_at, kKdx_some, kIsB_at, kEqE_at, kNeE_at, kInN_at, minF_at, dictF_at, atI0, atI1, eq_str, ixO_tup, lenO_tup, mTup_2, List.cons.injEq, Nat.reduceEqDiff, decide_false, decide_true, and_false, and_true, false_and, true_and, Bool.or_false, Bool.or_true, Bool.true_or, Bool.false_or, Bool.and_true, Bool.and_false, Bool.false_and, Bool.true_and, eReprC_at, kRep2_some, kRep3_some, Int.reduceLE, Int.reduceLT, w, -sWhile_at]
end Math

set_option maxRecDepth 100000
set_option maxHeartbeats 4000000
namespace Math
open MP Text PySem Builtin.Str
def ixs (q : Nat) : List Nat → Nat → List Nat
  | [], _ => []
  | c :: r, o => if c = q then o :: ixs q r (o + 1) else ixs q r (o + 1)
def spl (q : Nat) : List Nat → List Nat → List (List Nat)
  | mid, [] => [mid]
  | mid, c :: r => if c = q then mid :: spl q [] r else spl q (mid ++ [c]) r
theorem occ_all (q : Nat) : ∀ (suf pre : List Nat) (F : Array Nat) (k : Nat), F.size ≤ pre.length → k ≤ pre.length → (forIn (List.range' pre.length (suf.length + 1)) (F, k) (StrLaws.occBody (mkS (pre ++ suf)) (mkS [q]) (pre ++ suf).length ((pre ++ suf).length + 1))).run.fst.toList = F.toList ++ ixs q suf pre.length
  | [], pre, F, k, hF, hk => by
    have c : ¬ (((F.size < (pre ++ ([] : List Nat)).length + 1 ∧ k ≤ pre.length) ∧ pre.length + (mkS [q]).length ≤ (pre ++ ([] : List Nat)).length) ∧ subAt (mkS (pre ++ [])) (mkS [q]) pre.length = true) := fun z => by
      have := z.1.2
      rw [mkS_len] at this
      simp at this
      omega
    show (forIn [pre.length] (F, k) (StrLaws.occBody (mkS (pre ++ [])) (mkS [q]) (pre ++ ([] : List Nat)).length ((pre ++ ([] : List Nat)).length + 1))).run.fst.toList = _
    rw [List.forIn_cons]
    simp only [StrLaws.occBody, if_neg c]
    show F.toList = F.toList ++ []
    rw [List.append_nil]
  | c :: r, pre, F, k, hF, hk => by
    have sa := sub_at pre r c q
    rw [List.length_cons, List.range'_succ, List.forIn_cons]
    have lp : (pre ++ [c]).length = pre.length + 1 := by rw [List.length_append, List.length_singleton]
    by_cases hc : c = q
    · have cond : (((F.size < (pre ++ c :: r).length + 1 ∧ k ≤ pre.length) ∧ pre.length + (mkS [q]).length ≤ (pre ++ c :: r).length) ∧ subAt (mkS (pre ++ c :: r)) (mkS [q]) pre.length = true) := by
        refine ⟨⟨⟨?_, hk⟩, ?_⟩, ?_⟩
        · rw [List.length_append]
          omega
        · rw [mkS_len, List.length_append]
          show pre.length + 1 ≤ pre.length + (r.length + 1)
          omega
        · rw [sa]
          exact decide_eq_true hc
      simp only [StrLaws.occBody, if_pos cond]
      have ih := occ_all q r (pre ++ [c]) (F.push pre.length) (pre.length + (mkS [q]).length) (by rw [Array.size_push, lp]; omega) (by rw [lp, mkS_len]; exact Nat.le_refl _)
      rw [List.append_assoc, lp] at ih
      have ih2 : (forIn (List.range' (pre.length + 1) (r.length + 1)) (F.push pre.length, pre.length + (mkS [q]).length) (StrLaws.occBody (mkS (pre ++ c :: r)) (mkS [q]) (pre ++ c :: r).length ((pre ++ c :: r).length + 1))).run.fst.toList = (F.push pre.length).toList ++ ixs q r (pre.length + 1) := ih
      have e : ixs q (c :: r) pre.length = pre.length :: ixs q r (pre.length + 1) := by
        conv => lhs; unfold ixs
        rw [if_pos hc]
      rw [e]
      refine Eq.trans ih2 ?_
      rw [Array.toList_push, List.append_assoc]
      rfl
    · have cond : ¬ (((F.size < (pre ++ c :: r).length + 1 ∧ k ≤ pre.length) ∧ pre.length + (mkS [q]).length ≤ (pre ++ c :: r).length) ∧ subAt (mkS (pre ++ c :: r)) (mkS [q]) pre.length = true) := fun z => by
        have z2 := z.2
        rw [sa] at z2
        exact hc (of_decide_eq_true z2)
      simp only [StrLaws.occBody, if_neg cond]
      have ih := occ_all q r (pre ++ [c]) F k (by rw [lp]; omega) (by rw [lp]; omega)
      rw [List.append_assoc, lp] at ih
      have e : ixs q (c :: r) pre.length = ixs q r (pre.length + 1) := by
        conv => lhs; unfold ixs
        rw [if_neg hc]
      rw [e]
      exact ih
def pbt (x : Str) (s : Nat) (cuts : List Nat) (n : Nat) : List Str := ((s :: cuts.map (· + 1)).zip (cuts ++ [n])).map fun p => strSub x p.1 p.2
theorem pbt_cons (x : Str) (s c : Nat) (cuts : List Nat) (n : Nat) : pbt x s (c :: cuts) n = strSub x s c :: pbt x (c + 1) cuts n := rfl
theorem sub_mid (pre mid r : List Nat) : strSub (mkS (pre ++ (mid ++ r))) pre.length (pre.length + mid.length) = mkS mid := by
  rw [strSub_is, List.drop_left, Nat.add_sub_cancel_left, List.take_left]
theorem pbt_is (q : Nat) : ∀ (suf pre mid : List Nat), pbt (mkS (pre ++ (mid ++ suf))) pre.length (ixs q suf (pre.length + mid.length)) (pre ++ (mid ++ suf)).length = (spl q mid suf).map mkS
  | [], pre, mid => by
    show [strSub (mkS (pre ++ (mid ++ []))) pre.length (pre ++ (mid ++ ([] : List Nat))).length] = [mkS mid]
    have : (pre ++ (mid ++ ([] : List Nat))).length = pre.length + mid.length := by simp
    rw [this, sub_mid]
  | c :: r, pre, mid => by
    by_cases hc : c = q
    · have e : ixs q (c :: r) (pre.length + mid.length) = (pre.length + mid.length) :: ixs q r (pre.length + mid.length + 1) := by
        conv => lhs; unfold ixs
        rw [if_pos hc]
      have e2 : spl q mid (c :: r) = mid :: spl q [] r := by
        conv => lhs; unfold spl
        rw [if_pos hc]
      rw [e, e2, pbt_cons, sub_mid, List.map_cons]
      congr 1
      have ih := pbt_is q r (pre ++ mid ++ [c]) []
      have l1 : (pre ++ mid ++ [c]).length = pre.length + mid.length + 1 := by simp; omega
      have l2 : pre ++ mid ++ [c] ++ ([] ++ r) = pre ++ (mid ++ c :: r) := by simp
      rw [l2, l1, List.length_nil, Nat.add_zero] at ih
      exact ih
    · have e : ixs q (c :: r) (pre.length + mid.length) = ixs q r (pre.length + mid.length + 1) := by
        conv => lhs; unfold ixs
        rw [if_neg hc]
      have e2 : spl q mid (c :: r) = spl q (mid ++ [c]) r := by
        conv => lhs; unfold spl
        rw [if_neg hc]
      rw [e, e2]
      have ih := pbt_is q r pre (mid ++ [c])
      have l2 : pre ++ (mid ++ [c] ++ r) = pre ++ (mid ++ c :: r) := by simp
      have l3 : pre.length + (mid ++ [c]).length = pre.length + mid.length + 1 := by simp; omega
      rw [l2, l3] at ih
      exact ih
theorem spl_no (q : Nat) : ∀ (suf mid : List Nat), q ∉ suf → spl q mid suf = [mid ++ suf]
  | [], mid, _ => by
    show [mid] = _
    rw [List.append_nil]
  | c :: r, mid, h => by
    have hc : c ≠ q := fun z => h (by rw [z]; exact .head _)
    have e2 : spl q mid (c :: r) = spl q (mid ++ [c]) r := by
      conv => lhs; unfold spl
      rw [if_neg hc]
    rw [e2, spl_no q r (mid ++ [c]) fun z => h (.tail _ z), List.append_assoc]
    rfl
theorem ixs_nil (q : Nat) : ∀ (suf : List Nat) (o : Nat), q ∉ suf → ixs q suf o = []
  | [], _, _ => rfl
  | c :: r, o, h => by
    have hc : c ≠ q := fun z => h (by rw [z]; exact .head _)
    conv => lhs; unfold ixs
    rw [if_neg hc]
    exact ixs_nil q r (o + 1) fun z => h (.tail _ z)
theorem kind_ge (x : Str) : 1 ≤ Builtin.Str.strKind x := by
  unfold Builtin.Str.strKind
  split
  · exact Nat.le_refl _
  · split <;> decide
theorem split_is (q : Nat) (hq : q < 256) (l : List Nat) : Txt.split (mkS l) (mkS [q]) = (spl q [] l).map mkS := by
  have k1 : Builtin.Str.strKind (mkS [q]) = 1 := by
    unfold Builtin.Str.strKind
    rw [if_pos (by simp [mkS, hq])]
  have k2 := kind_ge (mkS l)
  have oc : occurrences (mkS l) (mkS [q]) 0 (mkS l).length ((mkS l).length + 1) = ixs q l 0 := by
    rw [StrLaws.occ_eq, mkS_len]
    exact occ_all q l [] #[] 0 (Nat.le_refl _) (Nat.le_refl _)
  unfold Txt.split
  rw [oc]
  by_cases h : (decide ((mkS l).length < (mkS [q]).length) || decide (Builtin.Str.strKind (mkS l) < Builtin.Str.strKind (mkS [q]))) = true
  · rw [if_pos h]
    have hn : l = [] := by
      rw [Bool.or_eq_true] at h
      rcases h with h | h
      · have := of_decide_eq_true h
        rw [mkS_len, mkS_len, List.length_singleton] at this
        exact List.length_eq_zero_iff.mp (by omega)
      · have := of_decide_eq_true h
        omega
    subst hn
    rfl
  · rw [if_neg h]
    by_cases hm : q ∈ l
    · have hne : (ixs q l 0).isEmpty = false := by
        cases hx : ixs q l 0 with
        | cons a b => rfl
        | nil =>
          have h2 := pbt_is q l [] []
          exfalso
          have ne : ∀ (l : List Nat) (o : Nat), q ∈ l → ixs q l o ≠ [] := fun l => by
            induction l with
            | nil => intro o z; cases z
            | cons a b ih =>
              intro o z
              unfold ixs
              by_cases ha : a = q
              · rw [if_pos ha]
                exact List.cons_ne_nil _ _
              · rw [if_neg ha]
                exact ih (o + 1) ((List.mem_cons.mp z).resolve_left fun y => ha y.symm)
          exact ne l 0 hm hx
      rw [if_neg (by rw [hne]; exact Bool.false_ne_true)]
      have h2 := pbt_is q l [] []
      simp only [List.nil_append, List.length_nil, Nat.add_zero] at h2
      rw [← h2]
      show ((0 :: (ixs q l 0).map (· + (mkS [q]).length)).zip (ixs q l 0 ++ [(mkS l).length])).map (fun (i, j) => strSub (mkS l) i j) = _
      rw [mkS_len, mkS_len]
      rfl
    · rw [if_pos (by rw [ixs_nil q l 0 hm]; rfl), spl_no q l [] hm]
      rfl
theorem spl_app (q : Nat) : ∀ (a mid b : List Nat), q ∉ a → spl q mid (a ++ q :: b) = (mid ++ a) :: spl q [] b
  | [], mid, b, _ => by
    show spl q mid (q :: b) = _
    conv => lhs; unfold spl
    rw [if_pos rfl, List.append_nil]
  | c :: r, mid, b, h => by
    have hc : c ≠ q := fun z => h (by rw [z]; exact .head _)
    have e2 : spl q mid (c :: r ++ q :: b) = spl q (mid ++ [c]) (r ++ q :: b) := by
      show spl q mid (c :: (r ++ q :: b)) = _
      conv => lhs; unfold spl
      rw [if_neg hc]
    rw [e2, spl_app q r (mid ++ [c]) b fun z => h (.tail _ z), List.append_assoc]
    rfl
theorem spl_join (q : Nat) : ∀ (rows : List (List Nat)), rows ≠ [] → (∀ l ∈ rows, q ∉ l) → spl q [] (joinD [q] rows) = rows
  | [], h, _ => absurd rfl h
  | [a], _, h => by
    show spl q [] a = _
    rw [spl_no q a [] (h a (.head _))]
    rfl
  | a :: b :: r, _, h => by
    have e : joinD [q] (a :: b :: r) = a ++ q :: joinD [q] (b :: r) := rfl
    rw [e, spl_app q a [] _ (h a (.head _)), spl_join q (b :: r) (List.cons_ne_nil _ _) fun l hl => h l (.tail _ hl)]
    rfl
theorem okTs_of : ∀ {ls : List (List Nat)}, (∀ l ∈ ls, okS l = true) → okTs (ls.map mkS) = some (ls.map D.str)
  | [], _ => rfl
  | l :: r, h => by
    show (okT (mkS l)).bind _ = _
    rw [okT_of (h l (.head _)), Option.bind_some, okTs_of fun m hm => h m (.tail _ hm)]
    rfl
theorem split_rows {rows : List (List Nat)} (hne : rows ≠ []) (hn : ∀ l ∈ rows, 10 ∉ l) (hk : ∀ l ∈ rows, okS l = true) (hl : (joinD [10] rows).length ≤ 100000) (st : Sto) : splitM (.str (joinD [10] rows)) [.str [10]] st = some (.ref st.length, st ++ [.lst (rows.map D.str)]) := by
  have c : ([10] : List Nat) ≠ [] ∧ (joinD [10] rows).length + 2 ≤ LIM := ⟨by simp, by unfold LIM; omega⟩
  show (if ([10] : List Nat) ≠ [] ∧ (joinD [10] rows).length + 2 ≤ LIM then Option.map _ (okTs (Txt.split (mkS (joinD [10] rows)) (mkS [10]))) else none) = _
  rw [if_pos c, split_is 10 (by decide), spl_join 10 rows hne hn, okTs_of hk]
  rfl
end Math

set_option maxRecDepth 100000
set_option maxHeartbeats 4000000
namespace Math
open MP Text PySem
def sp (l : List Nat) : Nat := (l.takeWhile (· == 32)).length
theorem sp_le (l : List Nat) : sp l ≤ l.length := (List.takeWhile_prefix _).length_le
def inD (n : Nat) : D := if n % 4 = 0 ∧ n ≤ 48 then .int ((n / 4 : Nat) : Int) else .non
theorem lstrip_is (l : List Nat) : Txt.lstripChars (mkS l) (mkS [32]) = mkS (l.drop (sp l)) := by
  have g : (mkS [32]).cps.contains = fun c => c == 32 := by
    funext c
    simp [mkS, eq_comm]
    rfl
  have lo : stripLo (fun c => c == 32) true (mkS l) = sp l := rfl
  have hi : ∀ n, stripHi (fun c => c == 32) false (mkS l) n = l.length := fun n => mkS_len l
  unfold Txt.lstripChars Txt.stripBy
  rw [g]
  unfold stripSame stripped
  rw [lo, hi, strSub_is, mkS_len]
  have e : (l.drop (sp l)).take (l.length - sp l) = l.drop (sp l) := List.take_of_length_le (by rw [List.length_drop]; omega)
  rw [e]
  by_cases h : sp l = 0
  · rw [h]
    simp
  · rw [if_neg]
    simp [h]
theorem inD_cases (n : Nat) : ((n : Int) % 4 > 0 ∧ inD n = .non) ∨ (¬ (n : Int) % 4 > 0 ∧ (n : Int) / 4 > 12 ∧ (n : Int) > 48 ∧ inD n = .non) ∨ (¬ (n : Int) % 4 > 0 ∧ ¬ (n : Int) / 4 > 12 ∧ ¬ (n : Int) > 48 ∧ inD n = .int ((n : Int) / 4)) := by
  unfold inD
  by_cases h1 : n % 4 = 0
  · by_cases h2 : n ≤ 48
    · refine .inr (.inr ⟨by omega, by omega, by omega, ?_⟩)
      rw [if_pos ⟨h1, h2⟩]
      congr 1
    · exact .inr (.inl ⟨by omega, by omega, by omega, by rw [if_neg fun z => h2 z.2]⟩)
  · exact .inl ⟨by omega, by rw [if_neg fun z => h1 z.1]⟩
theorem indent_is {l : List Nat} (hl : l.length ≤ 50000) (hk : okS l = true) (st : Sto) : F_indent_of [.str l] st = some (inD (sp l), st) := by
  have iss : isS st (.str l) = true := rfl
  have ls : lstripM (.str l) [.str [32]] st = some (.str (l.drop (sp l)), st) := by
    show (if l.length ≤ LIM then Option.map _ (okT (Txt.lstripChars (mkS l) (mkS [32]))) else none) = _
    rw [if_pos (lim1 (by omega)), lstrip_is, okT_of (okS_sub hk fun c hc => List.mem_of_mem_drop hc)]
    rfl
  have l1 := len_str l (by omega) st
  have l2 := len_str (l.drop (sp l)) (by rw [List.length_drop]; omega) st
  have e : (l.length : Int) - ((l.drop (sp l)).length : Int) = (sp l : Int) := by
    have := sp_le l
    rw [List.length_drop]
    omega
  have dm : divmodF [.int (sp l : Int), .int 4] st = some (.tup [.int ((sp l : Int) / 4), .int ((sp l : Int) % 4)], st) := by
    have c : (0 : Int) < 4 ∧ (4 : Int) < 1073741824 := by decide
    exact if_pos (e := none) c
  rcases inD_cases (sp l) with ⟨h1, h2⟩ | ⟨h1, h2, h3, h4⟩ | ⟨h1, h2, h3, h4⟩
  · rw [h2]
    simp only [F_indent_of, b_indent_of, eVar_at, kVar_some, eC_at, eBin_at, k2_some, k3_some, eUn_at, k1_some, kVal_some, kBl_some, kEq_at, kBlN_some, kNe_at, kIn_at, kNotIn_at, kIx_at, ixO_tup, kLt_int, kLe_int, kGt_int, kGe_int, kLt_str, kLe_str, kGt_str, kGe_str, kIs_non, kIs_bl, kIs_int, kIs_str, kIs_tup, kIs_ref, kIsNot_non, kIsNot_bl, kIsNot_int, kIsNot_str, kIsNot_tup, kIsNot_ref, opAdd_int, opAdd_str, opSub_int, opMul_int, opDiv_int, opMod_int, opPow_int, opAnd_int, opOr_int, opNeg_int, eChain_at, kc1_some, kc2_some, kc3_true, kc3_false, kc4_some, tOf_at, kTru_some, kTru2_some, truD_non, truD_bl, truD_int, truD_tup, tAnd_at, kAnd_true, kAnd_false, tOr_at, kOr_true, kOr_false, tNot_at, kNot_some, tYes_at, eAnd_at, keAnd_some, keAnd2_true, keAnd2_false, eOr_at, keOr_some, keOr2_true, keOr2_false, eNot_at, keNot_some, keNot2_some, eIf_at, keIf_true, keIf_false, aNil_at, aCons_at, ka1_some, ka2_some, eTup_at, kTup_0, kTup_1, kTup_2, kTup_3, kTup_4, kTup_5, kTup_6, eLst_at, kLst_0, kLst_1, kLst_2, kLst_3, kLst_4, eDic0_at, eCall_at, kCall_some, o1_at, isiO_at, kIsi_some, tyD_non, tyD_bl, tyD_int, tyD_str, tyD_tup, eBM_at, kbm1_some, kbm2_some, eSl_at, ks2_some, ks3_some, ks4_some, oNone_at, oSome_at, kSome_int, slO_str, sSeq_at, kSeq_nx, kSeq_rt, kSeq_bk, kSeq_ct, sNext_at, sBreak_at, sCont_at, sRetN_at, sRet_at, kRet_some, sExpr_at, kExpr_some, sSet_at, kSet_some, sIf_at, kIf_true, kIf_false, sPar2_k, kPar2_some, sPar3_k, kPar3_some, sAsg_at, kAsg_some, kAsg2_some, mName_at, mTup_2, mTup_3, mCons_at, kmCons_some, mNil_at, sPut_at, kp1_some, kp2_some, kp3_some, kp4_some, kFn_rt, kFn_nx, mkFn_0, mkFn_1, mkFn_2, mkFn_3, mkFn_4, mkFn_5, sWhile_at, List.getElem?_cons_zero, List.getElem?_cons_succ, List.set_cons_zero, List.set_cons_succ, List.replicate_succ, List.replicate_zero, Nat.reduceSub, Bool.not_true, Bool.not_false, ite_true, ite_false, if_true, if_false, reduceCtorEq, fldM_at, sFldM_at, kSF1_some, kSF2_some, kSF3_some, sFldAddM_at, kSA1_some, kSA2_int, eMake_at, kMk1_some, kMk2_some, isCM_at, isCO_non, eGet1_at, kG12_some, kG13_some, eGet2_at, kG22_some, kG23_some, eCallD_at, kCallD_some, eKdx_at, kKdx_some, kIsB_at, kEqE_at, kNeE_at, kInN_at, minF_at, dictF_at, atI0, atI1, eq_str, ixO_tup, lenO_tup, mTup_2, List.cons.injEq, Nat.reduceEqDiff, decide_false, decide_true, and_false, and_true, false_and, true_and, Bool.or_false, Bool.or_true, Bool.true_or, Bool.false_or, Bool.and_true, Bool.and_false, Bool.false_and, Bool.true_and, eReprC_at, kRep2_some, kRep3_some, Int.reduceLE, Int.reduceLT, iss, ls, l1, l2, e, dm, h1, decide_true]
  · rw [h4]
    simp only [F_indent_of, b_indent_of, eVar_at, kVar_some, eC_at, eBin_at, k2_some, k3_some, eUn_at, k1_some, kVal_some, kBl_some, kEq_at, kBlN_some, kNe_at, kIn_at, kNotIn_at, kIx_at, ixO_tup, kLt_int, kLe_int, kGt_int, kGe_int, kLt_str, kLe_str, kGt_str, kGe_str, kIs_non, kIs_bl, kIs_int, kIs_str, kIs_tup, kIs_ref, kIsNot_non, kIsNot_bl, kIsNot_int, kIsNot_str, kIsNot_tup, kIsNot_ref, opAdd_int, opAdd_str, opSub_int, opMul_int, opDiv_int, opMod_int, opPow_int, opAnd_int, opOr_int, opNeg_int, eChain_at, kc1_some, kc2_some, kc3_true, kc3_false, kc4_some, tOf_at, kTru_some, kTru2_some, truD_non, truD_bl, truD_int, truD_tup, tAnd_at, kAnd_true, kAnd_false, tOr_at, kOr_true, kOr_false, tNot_at, kNot_some, tYes_at, eAnd_at, keAnd_some, keAnd2_true, keAnd2_false, eOr_at, keOr_some, keOr2_true, keOr2_false, eNot_at, keNot_some, keNot2_some, eIf_at, keIf_true, keIf_false, aNil_at, aCons_at, ka1_some, ka2_some, eTup_at, kTup_0, kTup_1, kTup_2, kTup_3, kTup_4, kTup_5, kTup_6, eLst_at, kLst_0, kLst_1, kLst_2, kLst_3, kLst_4, eDic0_at, eCall_at, kCall_some, o1_at, isiO_at, kIsi_some, tyD_non, tyD_bl, tyD_int, tyD_str, tyD_tup, eBM_at, kbm1_some, kbm2_some, eSl_at, ks2_some, ks3_some, ks4_some, oNone_at, oSome_at, kSome_int, slO_str, sSeq_at, kSeq_nx, kSeq_rt, kSeq_bk, kSeq_ct, sNext_at, sBreak_at, sCont_at, sRetN_at, sRet_at, kRet_some, sExpr_at, kExpr_some, sSet_at, kSet_some, sIf_at, kIf_true, kIf_false, sPar2_k, kPar2_some, sPar3_k, kPar3_some, sAsg_at, kAsg_some, kAsg2_some, mName_at, mTup_2, mTup_3, mCons_at, kmCons_some, mNil_at, sPut_at, kp1_some, kp2_some, kp3_some, kp4_some, kFn_rt, kFn_nx, mkFn_0, mkFn_1, mkFn_2, mkFn_3, mkFn_4, mkFn_5, sWhile_at, List.getElem?_cons_zero, List.getElem?_cons_succ, List.set_cons_zero, List.set_cons_succ, List.replicate_succ, List.replicate_zero, Nat.reduceSub, Bool.not_true, Bool.not_false, ite_true, ite_false, if_true, if_false, reduceCtorEq, fldM_at, sFldM_at, kSF1_some, kSF2_some, kSF3_some, sFldAddM_at, kSA1_some, kSA2_int, eMake_at, kMk1_some, kMk2_some, isCM_at, isCO_non, eGet1_at, kG12_some, kG13_some, eGet2_at, kG22_some, kG23_some, eCallD_at, kCallD_some, eKdx_at, kKdx_some, kIsB_at, kEqE_at, kNeE_at, kInN_at, minF_at, dictF_at, atI0, atI1, eq_str, ixO_tup, lenO_tup, mTup_2, List.cons.injEq, Nat.reduceEqDiff, decide_false, decide_true, and_false, and_true, false_and, true_and, Bool.or_false, Bool.or_true, Bool.true_or, Bool.false_or, Bool.and_true, Bool.and_false, Bool.false_and, Bool.true_and, eReprC_at, kRep2_some, kRep3_some, Int.reduceLE, Int.reduceLT, iss, ls, l1, l2, e, dm, h1, h2, decide_true, decide_false]
  · rw [h4]
    simp only [F_indent_of, b_indent_of, eVar_at, kVar_some, eC_at, eBin_at, k2_some, k3_some, eUn_at, k1_some, kVal_some, kBl_some, kEq_at, kBlN_some, kNe_at, kIn_at, kNotIn_at, kIx_at, ixO_tup, kLt_int, kLe_int, kGt_int, kGe_int, kLt_str, kLe_str, kGt_str, kGe_str, kIs_non, kIs_bl, kIs_int, kIs_str, kIs_tup, kIs_ref, kIsNot_non, kIsNot_bl, kIsNot_int, kIsNot_str, kIsNot_tup, kIsNot_ref, opAdd_int, opAdd_str, opSub_int, opMul_int, opDiv_int, opMod_int, opPow_int, opAnd_int, opOr_int, opNeg_int, eChain_at, kc1_some, kc2_some, kc3_true, kc3_false, kc4_some, tOf_at, kTru_some, kTru2_some, truD_non, truD_bl, truD_int, truD_tup, tAnd_at, kAnd_true, kAnd_false, tOr_at, kOr_true, kOr_false, tNot_at, kNot_some, tYes_at, eAnd_at, keAnd_some, keAnd2_true, keAnd2_false, eOr_at, keOr_some, keOr2_true, keOr2_false, eNot_at, keNot_some, keNot2_some, eIf_at, keIf_true, keIf_false, aNil_at, aCons_at, ka1_some, ka2_some, eTup_at, kTup_0, kTup_1, kTup_2, kTup_3, kTup_4, kTup_5, kTup_6, eLst_at, kLst_0, kLst_1, kLst_2, kLst_3, kLst_4, eDic0_at, eCall_at, kCall_some, o1_at, isiO_at, kIsi_some, tyD_non, tyD_bl, tyD_int, tyD_str, tyD_tup, eBM_at, kbm1_some, kbm2_some, eSl_at, ks2_some, ks3_some, ks4_some, oNone_at, oSome_at, kSome_int, slO_str, sSeq_at, kSeq_nx, kSeq_rt, kSeq_bk, kSeq_ct, sNext_at, sBreak_at, sCont_at, sRetN_at, sRet_at, kRet_some, sExpr_at, kExpr_some, sSet_at, kSet_some, sIf_at, kIf_true, kIf_false, sPar2_k, kPar2_some, sPar3_k, kPar3_some, sAsg_at, kAsg_some, kAsg2_some, mName_at, mTup_2, mTup_3, mCons_at, kmCons_some, mNil_at, sPut_at, kp1_some, kp2_some, kp3_some, kp4_some, kFn_rt, kFn_nx, mkFn_0, mkFn_1, mkFn_2, mkFn_3, mkFn_4, mkFn_5, sWhile_at, List.getElem?_cons_zero, List.getElem?_cons_succ, List.set_cons_zero, List.set_cons_succ, List.replicate_succ, List.replicate_zero, Nat.reduceSub, Bool.not_true, Bool.not_false, ite_true, ite_false, if_true, if_false, reduceCtorEq, fldM_at, sFldM_at, kSF1_some, kSF2_some, kSF3_some, sFldAddM_at, kSA1_some, kSA2_int, eMake_at, kMk1_some, kMk2_some, isCM_at, isCO_non, eGet1_at, kG12_some, kG13_some, eGet2_at, kG22_some, kG23_some, eCallD_at, kCallD_some, eKdx_at, kKdx_some, kIsB_at, kEqE_at, kNeE_at, kInN_at, minF_at, dictF_at, atI0, atI1, eq_str, ixO_tup, lenO_tup, mTup_2, List.cons.injEq, Nat.reduceEqDiff, decide_false, decide_true, and_false, and_true, false_and, true_and, Bool.or_false, Bool.or_true, Bool.true_or, Bool.false_or, Bool.and_true, Bool.and_false, Bool.false_and, Bool.true_and, eReprC_at, kRep2_some, kRep3_some, Int.reduceLE, Int.reduceLT, iss, ls, l1, l2, e, dm, h1, h2, decide_false]
theorem ind_loop (k : Nat) (st : Sto) : ∀ (suf pre : List Nat), (pre ++ suf).length ≤ 100000 → loopW tW_l_indent_1 uW_l_indent_2 ((suf.takeWhile (· == 32)).length + 1 + k) [some (.str (pre ++ suf)), some (.int (pre.length : Nat))] st = some (.nx, [some (.str (pre ++ suf)), some (.int ((pre.length + (suf.takeWhile (· == 32)).length : Nat) : Int))], st)
  | [], pre, hl => by
    rw [List.takeWhile_nil, List.length_nil, Nat.zero_add, Nat.add_comm 1 k, Nat.add_zero]
    refine loopW_stop (st' := st) ?_
    have c : ¬ ((pre.length : Int) < ((pre ++ ([] : List Nat)).length : Int)) := by simp
    simp only [tW_l_indent_1, eVar_at, kVar_some, eC_at, eBin_at, k2_some, k3_some, eUn_at, k1_some, kVal_some, kBl_some, kEq_at, kBlN_some, kNe_at, kIn_at, kNotIn_at, kIx_at, ixO_tup, kLt_int, kLe_int, kGt_int, kGe_int, kLt_str, kLe_str, kGt_str, kGe_str, kIs_non, kIs_bl, kIs_int, kIs_str, kIs_tup, kIs_ref, kIsNot_non, kIsNot_bl, kIsNot_int, kIsNot_str, kIsNot_tup, kIsNot_ref, opAdd_int, opAdd_str, opSub_int, opMul_int, opDiv_int, opMod_int, opPow_int, opAnd_int, opOr_int, opNeg_int, eChain_at, kc1_some, kc2_some, kc3_true, kc3_false, kc4_some, tOf_at, kTru_some, kTru2_some, truD_non, truD_bl, truD_int, truD_tup, tAnd_at, kAnd_true, kAnd_false, tOr_at, kOr_true, kOr_false, tNot_at, kNot_some, tYes_at, eAnd_at, keAnd_some, keAnd2_true, keAnd2_false, eOr_at, keOr_some, keOr2_true, keOr2_false, eNot_at, keNot_some, keNot2_some, eIf_at, keIf_true, keIf_false, aNil_at, aCons_at, ka1_some, ka2_some, eTup_at, kTup_0, kTup_1, kTup_2, kTup_3, kTup_4, kTup_5, kTup_6, eLst_at, kLst_0, kLst_1, kLst_2, kLst_3, kLst_4, eDic0_at, eCall_at, kCall_some, o1_at, isiO_at, kIsi_some, tyD_non, tyD_bl, tyD_int, tyD_str, tyD_tup, eBM_at, kbm1_some, kbm2_some, eSl_at, ks2_some, ks3_some, ks4_some, oNone_at, oSome_at, kSome_int, slO_str, sSeq_at, kSeq_nx, kSeq_rt, kSeq_bk, kSeq_ct, sNext_at, sBreak_at, sCont_at, sRetN_at, sRet_at, kRet_some, sExpr_at, kExpr_some, sSet_at, kSet_some, sIf_at, kIf_true, kIf_false, sPar2_k, kPar2_some, sPar3_k, kPar3_some, sAsg_at, kAsg_some, kAsg2_some, mName_at, mTup_2, mTup_3, mCons_at, kmCons_some, mNil_at, sPut_at, kp1_some, kp2_some, kp3_some, kp4_some, kFn_rt, kFn_nx, mkFn_0, mkFn_1, mkFn_2, mkFn_3, mkFn_4, mkFn_5, sWhile_at, List.getElem?_cons_zero, List.getElem?_cons_succ, List.set_cons_zero, List.set_cons_succ, List.replicate_succ, List.replicate_zero, Nat.reduceSub, Bool.not_true, Bool.not_false, ite_true, ite_false, if_true, if_false, reduceCtorEq, fldM_at, sFldM_at, kSF1_some, kSF2_some, kSF3_some, sFldAddM_at, kSA1_some, kSA2_int, eMake_at, kMk1_some, kMk2_some, isCM_at, isCO_non, eGet1_at, kG12_some, kG13_some, eGet2_at, kG22_some, kG23_some, eCallD_at, kCallD_some, eKdx_at, kKdx_some, kIsB_at, kEqE_at, kNeE_at, kInN_at, minF_at, dictF_at, atI0, atI1, eq_str, ixO_tup, lenO_tup, mTup_2, List.cons.injEq, Nat.reduceEqDiff, decide_false, decide_true, and_false, and_true, false_and, true_and, Bool.or_false, Bool.or_true, Bool.true_or, Bool.false_or, Bool.and_true, Bool.and_false, Bool.false_and, Bool.true_and, eReprC_at, kRep2_some, kRep3_some, Int.reduceLE, Int.reduceLT, len_str _ hl, c, decide_false]
  | c :: r, pre, hl => by
    have h1 := ix_pre pre c r hl st
    have c1 : (pre.length : Int) < ((pre ++ c :: r).length : Int) := by
      rw [List.length_append, List.length_cons]
      omega
    have d32 := dec_one c 32
    have ht : tW_l_indent_1 [some (.str (pre ++ c :: r)), some (.int (pre.length : Nat))] st = some (decide (c = 32), st) := by
      simp only [tW_l_indent_1, eVar_at, kVar_some, eC_at, eBin_at, k2_some, k3_some, eUn_at, k1_some, kVal_some, kBl_some, kEq_at, kBlN_some, kNe_at, kIn_at, kNotIn_at, kIx_at, ixO_tup, kLt_int, kLe_int, kGt_int, kGe_int, kLt_str, kLe_str, kGt_str, kGe_str, kIs_non, kIs_bl, kIs_int, kIs_str, kIs_tup, kIs_ref, kIsNot_non, kIsNot_bl, kIsNot_int, kIsNot_str, kIsNot_tup, kIsNot_ref, opAdd_int, opAdd_str, opSub_int, opMul_int, opDiv_int, opMod_int, opPow_int, opAnd_int, opOr_int, opNeg_int, eChain_at, kc1_some, kc2_some, kc3_true, kc3_false, kc4_some, tOf_at, kTru_some, kTru2_some, truD_non, truD_bl, truD_int, truD_tup, tAnd_at, kAnd_true, kAnd_false, tOr_at, kOr_true, kOr_false, tNot_at, kNot_some, tYes_at, eAnd_at, keAnd_some, keAnd2_true, keAnd2_false, eOr_at, keOr_some, keOr2_true, keOr2_false, eNot_at, keNot_some, keNot2_some, eIf_at, keIf_true, keIf_false, aNil_at, aCons_at, ka1_some, ka2_some, eTup_at, kTup_0, kTup_1, kTup_2, kTup_3, kTup_4, kTup_5, kTup_6, eLst_at, kLst_0, kLst_1, kLst_2, kLst_3, kLst_4, eDic0_at, eCall_at, kCall_some, o1_at, isiO_at, kIsi_some, tyD_non, tyD_bl, tyD_int, tyD_str, tyD_tup, eBM_at, kbm1_some, kbm2_some, eSl_at, ks2_some, ks3_some, ks4_some, oNone_at, oSome_at, kSome_int, slO_str, sSeq_at, kSeq_nx, kSeq_rt, kSeq_bk, kSeq_ct, sNext_at, sBreak_at, sCont_at, sRetN_at, sRet_at, kRet_some, sExpr_at, kExpr_some, sSet_at, kSet_some, sIf_at, kIf_true, kIf_false, sPar2_k, kPar2_some, sPar3_k, kPar3_some, sAsg_at, kAsg_some, kAsg2_some, mName_at, mTup_2, mTup_3, mCons_at, kmCons_some, mNil_at, sPut_at, kp1_some, kp2_some, kp3_some, kp4_some, kFn_rt, kFn_nx, mkFn_0, mkFn_1, mkFn_2, mkFn_3, mkFn_4, mkFn_5, sWhile_at, List.getElem?_cons_zero, List.getElem?_cons_succ, List.set_cons_zero, List.set_cons_succ, List.replicate_succ, List.replicate_zero, Nat.reduceSub, Bool.not_true, Bool.not_false, ite_true, ite_false, if_true, if_false, reduceCtorEq, fldM_at, sFldM_at, kSF1_some, kSF2_some, kSF3_some, sFldAddM_at, kSA1_some, kSA2_int, eMake_at, kMk1_some, kMk2_some, isCM_at, isCO_non, eGet1_at, kG12_some, kG13_some, eGet2_at, kG22_some, kG23_some, eCallD_at, kCallD_some, eKdx_at, kKdx_some, kIsB_at, kEqE_at, kNeE_at, kInN_at, minF_at, dictF_at, atI0, atI1, eq_str, ixO_tup, lenO_tup, mTup_2, List.cons.injEq, Nat.reduceEqDiff, decide_false, decide_true, and_false, and_true, false_and, true_and, Bool.or_false, Bool.or_true, Bool.true_or, Bool.false_or, Bool.and_true, Bool.and_false, Bool.false_and, Bool.true_and, eReprC_at, kRep2_some, kRep3_some, Int.reduceLE, Int.reduceLT, len_str _ hl, c1, decide_true, h1, d32, -List.cons.injEq]
    by_cases hc : c = 32
    · rw [decide_eq_true hc] at ht
      rw [List.takeWhile_cons_of_pos (by simp [hc]), List.length_cons, show (r.takeWhile (· == 32)).length + 1 + 1 + k = (r.takeWhile (· == 32)).length + 1 + k + 1 by omega]
      have hu : uW_l_indent_2 [some (.str (pre ++ c :: r)), some (.int (pre.length : Nat))] st = some (.nx, [some (.str (pre ++ c :: r)), some (.int ((pre ++ [c]).length : Nat))], st) := by
        have : ((pre ++ [c]).length : Int) = (pre.length : Int) + 1 := by simp
        simp only [uW_l_indent_2, eVar_at, kVar_some, eC_at, eBin_at, k2_some, k3_some, eUn_at, k1_some, kVal_some, kBl_some, kEq_at, kBlN_some, kNe_at, kIn_at, kNotIn_at, kIx_at, ixO_tup, kLt_int, kLe_int, kGt_int, kGe_int, kLt_str, kLe_str, kGt_str, kGe_str, kIs_non, kIs_bl, kIs_int, kIs_str, kIs_tup, kIs_ref, kIsNot_non, kIsNot_bl, kIsNot_int, kIsNot_str, kIsNot_tup, kIsNot_ref, opAdd_int, opAdd_str, opSub_int, opMul_int, opDiv_int, opMod_int, opPow_int, opAnd_int, opOr_int, opNeg_int, eChain_at, kc1_some, kc2_some, kc3_true, kc3_false, kc4_some, tOf_at, kTru_some, kTru2_some, truD_non, truD_bl, truD_int, truD_tup, tAnd_at, kAnd_true, kAnd_false, tOr_at, kOr_true, kOr_false, tNot_at, kNot_some, tYes_at, eAnd_at, keAnd_some, keAnd2_true, keAnd2_false, eOr_at, keOr_some, keOr2_true, keOr2_false, eNot_at, keNot_some, keNot2_some, eIf_at, keIf_true, keIf_false, aNil_at, aCons_at, ka1_some, ka2_some, eTup_at, kTup_0, kTup_1, kTup_2, kTup_3, kTup_4, kTup_5, kTup_6, eLst_at, kLst_0, kLst_1, kLst_2, kLst_3, kLst_4, eDic0_at, eCall_at, kCall_some, o1_at, isiO_at, kIsi_some, tyD_non, tyD_bl, tyD_int, tyD_str, tyD_tup, eBM_at, kbm1_some, kbm2_some, eSl_at, ks2_some, ks3_some, ks4_some, oNone_at, oSome_at, kSome_int, slO_str, sSeq_at, kSeq_nx, kSeq_rt, kSeq_bk, kSeq_ct, sNext_at, sBreak_at, sCont_at, sRetN_at, sRet_at, kRet_some, sExpr_at, kExpr_some, sSet_at, kSet_some, sIf_at, kIf_true, kIf_false, sPar2_k, kPar2_some, sPar3_k, kPar3_some, sAsg_at, kAsg_some, kAsg2_some, mName_at, mTup_2, mTup_3, mCons_at, kmCons_some, mNil_at, sPut_at, kp1_some, kp2_some, kp3_some, kp4_some, kFn_rt, kFn_nx, mkFn_0, mkFn_1, mkFn_2, mkFn_3, mkFn_4, mkFn_5, sWhile_at, List.getElem?_cons_zero, List.getElem?_cons_succ, List.set_cons_zero, List.set_cons_succ, List.replicate_succ, List.replicate_zero, Nat.reduceSub, Bool.not_true, Bool.not_false, ite_true, ite_false, if_true, if_false, reduceCtorEq, fldM_at, sFldM_at, kSF1_some, kSF2_some, kSF3_some, sFldAddM_at, kSA1_some, kSA2_int, eMake_at, kMk1_some, kMk2_some, isCM_at, isCO_non, eGet1_at, kG12_some, kG13_some, eGet2_at, kG22_some, kG23_some, eCallD_at, kCallD_some, eKdx_at, kKdx_some, kIsB_at, kEqE_at, kNeE_at, kInN_at, minF_at, dictF_at, atI0, atI1, eq_str, ixO_tup, lenO_tup, mTup_2, List.cons.injEq, Nat.reduceEqDiff, decide_false, decide_true, and_false, and_true, false_and, true_and, Bool.or_false, Bool.or_true, Bool.true_or, Bool.false_or, Bool.and_true, Bool.and_false, Bool.false_and, Bool.true_and, eReprC_at, kRep2_some, kRep3_some, Int.reduceLE, Int.reduceLT, this]
      rw [loopW_go ht hu]
      have ih := ind_loop k st r (pre ++ [c]) (by rw [List.append_assoc]; exact hl)
      rw [List.append_assoc] at ih
      have e2 : (pre ++ [c]).length + (r.takeWhile (· == 32)).length = pre.length + ((r.takeWhile (· == 32)).length + 1) := by
        rw [List.length_append, List.length_singleton]
        omega
      rw [e2] at ih
      exact ih
    · rw [List.takeWhile_cons_of_neg (by simp [hc]), List.length_nil, Nat.zero_add, Nat.add_comm 1 k, Nat.add_zero]
      rw [decide_eq_false hc] at ht
      exact loopW_stop ht
theorem lindent_is {l : List Nat} (hl : l.length ≤ 50000) (st : Sto) : F_l_indent [.str l] st = some (inD (sp l), st) := by
  have t := sp_le l
  have w := sWhile_of (t := tW_l_indent_1) (u := uW_l_indent_2) (n := sp l + 1) (ρ := [some (.str l), some (.int 0)]) (st := st) (fuel_ok (by omega)) fun k => by
    have := ind_loop k st l [] (by rw [List.nil_append]; omega)
    simp only [List.nil_append, List.length_nil, Nat.zero_add] at this
    exact this
  have hs : (l.takeWhile (· == 32)).length = sp l := rfl
  rw [hs] at w
  rcases inD_cases (sp l) with ⟨h1, h2⟩ | ⟨h1, h2, h3, h4⟩ | ⟨h1, h2, h3, h4⟩
  · rw [h2]
    simp only [F_l_indent, b_l_indent, eVar_at, kVar_some, eC_at, eBin_at, k2_some, k3_some, eUn_at, k1_some, kVal_some, kBl_some, kEq_at, kBlN_some, kNe_at, kIn_at, kNotIn_at, kIx_at, ixO_tup, kLt_int, kLe_int, kGt_int, kGe_int, kLt_str, kLe_str, kGt_str, kGe_str, kIs_non, kIs_bl, kIs_int, kIs_str, kIs_tup, kIs_ref, kIsNot_non, kIsNot_bl, kIsNot_int, kIsNot_str, kIsNot_tup, kIsNot_ref, opAdd_int, opAdd_str, opSub_int, opMul_int, opDiv_int, opMod_int, opPow_int, opAnd_int, opOr_int, opNeg_int, eChain_at, kc1_some, kc2_some, kc3_true, kc3_false, kc4_some, tOf_at, kTru_some, kTru2_some, truD_non, truD_bl, truD_int, truD_tup, tAnd_at, kAnd_true, kAnd_false, tOr_at, kOr_true, kOr_false, tNot_at, kNot_some, tYes_at, eAnd_at, keAnd_some, keAnd2_true, keAnd2_false, eOr_at, keOr_some, keOr2_true, keOr2_false, eNot_at, keNot_some, keNot2_some, eIf_at, keIf_true, keIf_false, aNil_at, aCons_at, ka1_some, ka2_some, eTup_at, kTup_0, kTup_1, kTup_2, kTup_3, kTup_4, kTup_5, kTup_6, eLst_at, kLst_0, kLst_1, kLst_2, kLst_3, kLst_4, eDic0_at, eCall_at, kCall_some, o1_at, isiO_at, kIsi_some, tyD_non, tyD_bl, tyD_int, tyD_str, tyD_tup, eBM_at, kbm1_some, kbm2_some, eSl_at, ks2_some, ks3_some, ks4_some, oNone_at, oSome_at, kSome_int, slO_str, sSeq_at, kSeq_nx, kSeq_rt, kSeq_bk, kSeq_ct, sNext_at, sBreak_at, sCont_at, sRetN_at, sRet_at, kRet_some, sExpr_at, kExpr_some, sSet_at, kSet_some, sIf_at, kIf_true, kIf_false, sPar2_k, kPar2_some, sPar3_k, kPar3_some, sAsg_at, kAsg_some, kAsg2_some, mName_at, mTup_2, mTup_3, mCons_at, kmCons_some, mNil_at, sPut_at, kp1_some, kp2_some, kp3_some, kp4_some, kFn_rt, kFn_nx, mkFn_0, mkFn_1, mkFn_2, mkFn_3, mkFn_4, mkFn_5, sWhile_at, List.getElem?_cons_zero, List.getElem?_cons_succ, List.set_cons_zero, List.set_cons_succ, List.replicate_succ, List.replicate_zero, Nat.reduceSub, Bool.not_true, Bool.not_false, ite_true, ite_false, if_true, if_false, reduceCtorEq, fldM_at, sFldM_at, kSF1_some, kSF2_some, kSF3_some, sFldAddM_at, kSA1_some, kSA2_int, eMake_at, kMk1_some, kMk2_some, isCM_at, isCO_non, eGet1_at, kG12_some, kG13_some, eGet2_at, kG22_some, kG23_some, eCallD_at, kCallD_some, eKdx_at, kKdx_some, kIsB_at, kEqE_at, kNeE_at, kInN_at, minF_at, dictF_at, atI0, atI1, eq_str, ixO_tup, lenO_tup, mTup_2, List.cons.injEq, Nat.reduceEqDiff, decide_false, decide_true, and_false, and_true, false_and, true_and, Bool.or_false, Bool.or_true, Bool.true_or, Bool.false_or, Bool.and_true, Bool.and_false, Bool.false_and, Bool.true_and, eReprC_at, kRep2_some, kRep3_some, Int.reduceLE, Int.reduceLT, cDv_2, cMd_2, gDv_2, gMd_2, cMr_2, cMl_2, cDv_3, cMd_3, gDv_3, gMd_3, cMr_3, cMl_3, cDv_4, cMd_4, gDv_4, gMd_4, cMr_4, cMl_4, cDv_5, cMd_5, gDv_5, gMd_5, cMr_5, cMl_5, cDv_6, cMd_6, gDv_6, gMd_6, cMr_6, cMl_6, cDv_7, cMd_7, gDv_7, gMd_7, cMr_7, cMl_7, cDv_8, cMd_8, gDv_8, gMd_8, cMr_8, cMl_8, cDv_12, cMd_12, gDv_12, gMd_12, cMr_12, cMl_12, cDv_15, cMd_15, gDv_15, gMd_15, cMr_15, cMl_15, cDv_30, cMd_30, gDv_30, gMd_30, cMr_30, cMl_30, cDv_31, cMd_31, gDv_31, gMd_31, cMr_31, cMl_31, cDv_40, cMd_40, gDv_40, gMd_40, cMr_40, cMl_40, cDv_57, cMd_57, gDv_57, gMd_57, cMr_57, cMl_57, cDv_60, cMd_60, gDv_60, gMd_60, cMr_60, cMl_60, cDv_94, cMd_94, gDv_94, gMd_94, cMr_94, cMl_94, cDv_240, cMd_240, gDv_240, gMd_240, cMr_240, cMl_240, cDv_7919, cMd_7919, gDv_7919, gMd_7919, cMr_7919, cMl_7919, cDv_16807, cMd_16807, gDv_16807, gMd_16807, cMr_16807, cMl_16807, cDv_48271, cMd_48271, gDv_48271, gMd_48271, cMr_48271, cMl_48271, cDv_1000000007, cMd_1000000007, gDv_1000000007, gMd_1000000007, cMr_1000000007, cMl_1000000007, cDv_2147483629, cMd_2147483629, gDv_2147483629, gMd_2147483629, cMr_2147483629, cMl_2147483629, cDv_2147483647, cMd_2147483647, gDv_2147483647, gMd_2147483647, cMr_2147483647, cMl_2147483647, w, h1, decide_true, -sWhile_at]
  · rw [h4]
    simp only [F_l_indent, b_l_indent, eVar_at, kVar_some, eC_at, eBin_at, k2_some, k3_some, eUn_at, k1_some, kVal_some, kBl_some, kEq_at, kBlN_some, kNe_at, kIn_at, kNotIn_at, kIx_at, ixO_tup, kLt_int, kLe_int, kGt_int, kGe_int, kLt_str, kLe_str, kGt_str, kGe_str, kIs_non, kIs_bl, kIs_int, kIs_str, kIs_tup, kIs_ref, kIsNot_non, kIsNot_bl, kIsNot_int, kIsNot_str, kIsNot_tup, kIsNot_ref, opAdd_int, opAdd_str, opSub_int, opMul_int, opDiv_int, opMod_int, opPow_int, opAnd_int, opOr_int, opNeg_int, eChain_at, kc1_some, kc2_some, kc3_true, kc3_false, kc4_some, tOf_at, kTru_some, kTru2_some, truD_non, truD_bl, truD_int, truD_tup, tAnd_at, kAnd_true, kAnd_false, tOr_at, kOr_true, kOr_false, tNot_at, kNot_some, tYes_at, eAnd_at, keAnd_some, keAnd2_true, keAnd2_false, eOr_at, keOr_some, keOr2_true, keOr2_false, eNot_at, keNot_some, keNot2_some, eIf_at, keIf_true, keIf_false, aNil_at, aCons_at, ka1_some, ka2_some, eTup_at, kTup_0, kTup_1, kTup_2, kTup_3, kTup_4, kTup_5, kTup_6, eLst_at, kLst_0, kLst_1, kLst_2, kLst_3, kLst_4, eDic0_at, eCall_at, kCall_some, o1_at, isiO_at, kIsi_some, tyD_non, tyD_bl, tyD_int, tyD_str, tyD_tup, eBM_at, kbm1_some, kbm2_some, eSl_at, ks2_some, ks3_some, ks4_some, oNone_at, oSome_at, kSome_int, slO_str, sSeq_at, kSeq_nx, kSeq_rt, kSeq_bk, kSeq_ct, sNext_at, sBreak_at, sCont_at, sRetN_at, sRet_at, kRet_some, sExpr_at, kExpr_some, sSet_at, kSet_some, sIf_at, kIf_true, kIf_false, sPar2_k, kPar2_some, sPar3_k, kPar3_some, sAsg_at, kAsg_some, kAsg2_some, mName_at, mTup_2, mTup_3, mCons_at, kmCons_some, mNil_at, sPut_at, kp1_some, kp2_some, kp3_some, kp4_some, kFn_rt, kFn_nx, mkFn_0, mkFn_1, mkFn_2, mkFn_3, mkFn_4, mkFn_5, sWhile_at, List.getElem?_cons_zero, List.getElem?_cons_succ, List.set_cons_zero, List.set_cons_succ, List.replicate_succ, List.replicate_zero, Nat.reduceSub, Bool.not_true, Bool.not_false, ite_true, ite_false, if_true, if_false, reduceCtorEq, fldM_at, sFldM_at, kSF1_some, kSF2_some, kSF3_some, sFldAddM_at, kSA1_some, kSA2_int, eMake_at, kMk1_some, kMk2_some, isCM_at, isCO_non, eGet1_at, kG12_some, kG13_some, eGet2_at, kG22_some, kG23_some, eCallD_at, kCallD_some, eKdx_at, kKdx_some, kIsB_at, kEqE_at, kNeE_at, kInN_at, minF_at, dictF_at, atI0, atI1, eq_str, ixO_tup, lenO_tup, mTup_2, List.cons.injEq, Nat.reduceEqDiff, decide_false, decide_true, and_false, and_true, false_and, true_and, Bool.or_false, Bool.or_true, Bool.true_or, Bool.false_or, Bool.and_true, Bool.and_false, Bool.false_and, Bool.true_and, eReprC_at, kRep2_some, kRep3_some, Int.reduceLE, Int.reduceLT, cDv_2, cMd_2, gDv_2, gMd_2, cMr_2, cMl_2, cDv_3, cMd_3, gDv_3, gMd_3, cMr_3, cMl_3, cDv_4, cMd_4, gDv_4, gMd_4, cMr_4, cMl_4, cDv_5, cMd_5, gDv_5, gMd_5, cMr_5, cMl_5, cDv_6, cMd_6, gDv_6, gMd_6, cMr_6, cMl_6, cDv_7, cMd_7, gDv_7, gMd_7, cMr_7, cMl_7, cDv_8, cMd_8, gDv_8, gMd_8, cMr_8, cMl_8, cDv_12, cMd_12, gDv_12, gMd_12, cMr_12, cMl_12, cDv_15, cMd_15, gDv_15, gMd_15, cMr_15, cMl_15, cDv_30, cMd_30, gDv_30, gMd_30, cMr_30, cMl_30, cDv_31, cMd_31, gDv_31, gMd_31, cMr_31, cMl_31, cDv_40, cMd_40, gDv_40, gMd_40, cMr_40, cMl_40, cDv_57, cMd_57, gDv_57, gMd_57, cMr_57, cMl_57, cDv_60, cMd_60, gDv_60, gMd_60, cMr_60, cMl_60, cDv_94, cMd_94, gDv_94, gMd_94, cMr_94, cMl_94, cDv_240, cMd_240, gDv_240, gMd_240, cMr_240, cMl_240, cDv_7919, cMd_7919, gDv_7919, gMd_7919, cMr_7919, cMl_7919, cDv_16807, cMd_16807, gDv_16807, gMd_16807, cMr_16807, cMl_16807, cDv_48271, cMd_48271, gDv_48271, gMd_48271, cMr_48271, cMl_48271, cDv_1000000007, cMd_1000000007, gDv_1000000007, gMd_1000000007, cMr_1000000007, cMl_1000000007, cDv_2147483629, cMd_2147483629, gDv_2147483629, gMd_2147483629, cMr_2147483629, cMl_2147483629, cDv_2147483647, cMd_2147483647, gDv_2147483647, gMd_2147483647, cMr_2147483647, cMl_2147483647, w, h1, h3, decide_true, decide_false, -sWhile_at]
  · rw [h4]
    simp only [F_l_indent, b_l_indent, eVar_at, kVar_some, eC_at, eBin_at, k2_some, k3_some, eUn_at, k1_some, kVal_some, kBl_some, kEq_at, kBlN_some, kNe_at, kIn_at, kNotIn_at, kIx_at, ixO_tup, kLt_int, kLe_int, kGt_int, kGe_int, kLt_str, kLe_str, kGt_str, kGe_str, kIs_non, kIs_bl, kIs_int, kIs_str, kIs_tup, kIs_ref, kIsNot_non, kIsNot_bl, kIsNot_int, kIsNot_str, kIsNot_tup, kIsNot_ref, opAdd_int, opAdd_str, opSub_int, opMul_int, opDiv_int, opMod_int, opPow_int, opAnd_int, opOr_int, opNeg_int, eChain_at, kc1_some, kc2_some, kc3_true, kc3_false, kc4_some, tOf_at, kTru_some, kTru2_some, truD_non, truD_bl, truD_int, truD_tup, tAnd_at, kAnd_true, kAnd_false, tOr_at, kOr_true, kOr_false, tNot_at, kNot_some, tYes_at, eAnd_at, keAnd_some, keAnd2_true, keAnd2_false, eOr_at, keOr_some, keOr2_true, keOr2_false, eNot_at, keNot_some, keNot2_some, eIf_at, keIf_true, keIf_false, aNil_at, aCons_at, ka1_some, ka2_some, eTup_at, kTup_0, kTup_1, kTup_2, kTup_3, kTup_4, kTup_5, kTup_6, eLst_at, kLst_0, kLst_1, kLst_2, kLst_3, kLst_4, eDic0_at, eCall_at, kCall_some, o1_at, isiO_at, kIsi_some, tyD_non, tyD_bl, tyD_int, tyD_str, tyD_tup, eBM_at, kbm1_some, kbm2_some, eSl_at, ks2_some, ks3_some, ks4_some, oNone_at, oSome_at, kSome_int, slO_str, sSeq_at, kSeq_nx, kSeq_rt, kSeq_bk, kSeq_ct, sNext_at, sBreak_at, sCont_at, sRetN_at, sRet_at, kRet_some, sExpr_at, kExpr_some, sSet_at, kSet_some, sIf_at, kIf_true, kIf_false, sPar2_k, kPar2_some, sPar3_k, kPar3_some, sAsg_at, kAsg_some, kAsg2_some, mName_at, mTup_2, mTup_3, mCons_at, kmCons_some, mNil_at, sPut_at, kp1_some, kp2_some, kp3_some, kp4_some, kFn_rt, kFn_nx, mkFn_0, mkFn_1, mkFn_2, mkFn_3, mkFn_4, mkFn_5, sWhile_at, List.getElem?_cons_zero, List.getElem?_cons_succ, List.set_cons_zero, List.set_cons_succ, List.replicate_succ, List.replicate_zero, Nat.reduceSub, Bool.not_true, Bool.not_false, ite_true, ite_false, if_true, if_false, reduceCtorEq, fldM_at, sFldM_at, kSF1_some, kSF2_some, kSF3_some, sFldAddM_at, kSA1_some, kSA2_int, eMake_at, kMk1_some, kMk2_some, isCM_at, isCO_non, eGet1_at, kG12_some, kG13_some, eGet2_at, kG22_some, kG23_some, eCallD_at, kCallD_some, eKdx_at, kKdx_some, kIsB_at, kEqE_at, kNeE_at, kInN_at, minF_at, dictF_at, atI0, atI1, eq_str, ixO_tup, lenO_tup, mTup_2, List.cons.injEq, Nat.reduceEqDiff, decide_false, decide_true, and_false, and_true, false_and, true_and, Bool.or_false, Bool.or_true, Bool.true_or, Bool.false_or, Bool.and_true, Bool.and_false, Bool.false_and, Bool.true_and, eReprC_at, kRep2_some, kRep3_some, Int.reduceLE, Int.reduceLT, cDv_2, cMd_2, gDv_2, gMd_2, cMr_2, cMl_2, cDv_3, cMd_3, gDv_3, gMd_3, cMr_3, cMl_3, cDv_4, cMd_4, gDv_4, gMd_4, cMr_4, cMl_4, cDv_5, cMd_5, gDv_5, gMd_5, cMr_5, cMl_5, cDv_6, cMd_6, gDv_6, gMd_6, cMr_6, cMl_6, cDv_7, cMd_7, gDv_7, gMd_7, cMr_7, cMl_7, cDv_8, cMd_8, gDv_8, gMd_8, cMr_8, cMl_8, cDv_12, cMd_12, gDv_12, gMd_12, cMr_12, cMl_12, cDv_15, cMd_15, gDv_15, gMd_15, cMr_15, cMl_15, cDv_30, cMd_30, gDv_30, gMd_30, cMr_30, cMl_30, cDv_31, cMd_31, gDv_31, gMd_31, cMr_31, cMl_31, cDv_40, cMd_40, gDv_40, gMd_40, cMr_40, cMl_40, cDv_57, cMd_57, gDv_57, gMd_57, cMr_57, cMl_57, cDv_60, cMd_60, gDv_60, gMd_60, cMr_60, cMl_60, cDv_94, cMd_94, gDv_94, gMd_94, cMr_94, cMl_94, cDv_240, cMd_240, gDv_240, gMd_240, cMr_240, cMl_240, cDv_7919, cMd_7919, gDv_7919, gMd_7919, cMr_7919, cMl_7919, cDv_16807, cMd_16807, gDv_16807, gMd_16807, cMr_16807, cMl_16807, cDv_48271, cMd_48271, gDv_48271, gMd_48271, cMr_48271, cMl_48271, cDv_1000000007, cMd_1000000007, gDv_1000000007, gMd_1000000007, cMr_1000000007, cMl_1000000007, cDv_2147483629, cMd_2147483629, gDv_2147483629, gMd_2147483629, cMr_2147483629, cMl_2147483629, cDv_2147483647, cMd_2147483647, gDv_2147483647, gMd_2147483647, cMr_2147483647, cMl_2147483647, w, h1, h3, decide_false, -sWhile_at]
end Math

set_option maxRecDepth 100000
set_option maxHeartbeats 4000000
namespace Math
open MP Text PySem
structure Fi (p : PyData) (dp wt : Nat) : Prop where
  cl : p.canLay0 = true
  dp : p.depth ≤ dp
  wt : p.weight ≤ wt
  si : p.intsShort 13 = true
  sh : p.showable = true
  nd : p.hasDict = false
theorem Fi.non {d w : Nat} : Fi .none d w := ⟨rfl, Nat.zero_le _, Nat.zero_le _, rfl, rfl, rfl⟩
theorem Fi.str {l : List Nat} {d w : Nat} (h : okS l = true) (hl : l.length ≤ w) : Fi (.str (mkS l)) d w := by
  refine ⟨?_, Nat.zero_le _, hl, rfl, rfl, rfl⟩
  show PyData.strOk (mkS l) = true
  unfold PyData.strOk mkS
  rw [List.all_toArray]
  exact h
theorem Fi.int {i : Int} {d w : Nat} (h : i.natAbs < 10 ^ 12) (hw : 41 ≤ w) : Fi (.int i) d w := by
  have hb : i.natAbs < 2 ^ 40 := by
    have h2 : (10 : Nat) ^ 12 = 1000000000000 := by decide
    have h3 : (2 : Nat) ^ 40 = 1099511627776 := by decide
    omega
  have hlog : i.natAbs.log2 < 40 := PySem.Flt.log2_lt_of (by decide) hb
  refine ⟨rfl, Nat.zero_le _, ?_, decide_eq_true (PyData.shown_int_le h), decide_eq_true (by omega), rfl⟩
  show (if i == 0 then 0 else i.natAbs.log2 + 1) ≤ w
  split <;> omega
theorem fi_all {d w : Nat} : ∀ {ps : List PyData}, (∀ p ∈ ps, Fi p d w) → PyData.canLayAll0 ps = true ∧ PyData.depthAll ps ≤ d ∧ PyData.weightAll ps ≤ ps.length * (w + 1) ∧ PyData.intsShortAll 13 ps = true ∧ PyData.showableAll ps = true ∧ PyData.hasDictAll ps = false
  | [], _ => ⟨rfl, Nat.zero_le _, Nat.zero_le _, rfl, rfl, rfl⟩
  | p :: r, h => by
    have a := h p (.head _)
    obtain ⟨b1, b2, b3, b4, b5, b6⟩ := fi_all fun q hq => h q (.tail _ hq)
    refine ⟨?_, ?_, ?_, ?_, ?_, ?_⟩
    · show (PyData.canLay0 p && PyData.canLayAll0 r) = true
      rw [a.cl, b1]
      rfl
    · show max (PyData.depth p) (PyData.depthAll r) ≤ d
      have := a.dp
      omega
    · show PyData.weight p + 1 + PyData.weightAll r ≤ (r.length + 1) * (w + 1)
      have := a.wt
      rw [Nat.add_mul, Nat.one_mul]
      omega
    · show (PyData.intsShort 13 p && PyData.intsShortAll 13 r) = true
      rw [a.si, b4]
      rfl
    · show (PyData.showable p && PyData.showableAll r) = true
      rw [a.sh, b5]
      rfl
    · show (PyData.hasDict p || PyData.hasDictAll r) = false
      rw [a.nd, b6]
      rfl
theorem Fi.list {ps : List PyData} {d w W : Nat} (h : ∀ p ∈ ps, Fi p d w) (hW : ps.length * (w + 1) ≤ W) : Fi (.list ps) (d + 1) W := by
  obtain ⟨b1, b2, b3, b4, b5, b6⟩ := fi_all h
  exact ⟨b1, Nat.succ_le_succ b2, Nat.le_trans b3 hW, b4, b5, b6⟩
theorem Fi.tup {ps : List PyData} {d w W : Nat} (h : ∀ p ∈ ps, Fi p d w) (hW : ps.length * (w + 1) ≤ W) : Fi (.tuple ps) (d + 1) W := by
  obtain ⟨b1, b2, b3, b4, b5, b6⟩ := fi_all h
  exact ⟨b1, Nat.succ_le_succ b2, Nat.le_trans b3 hW, b4, b5, b6⟩
theorem sh_ref {st : Sto} {k : Nat} {p : PyData} {d : Nat} (e : toP st DEEP (.ref k) = some p) (h : Fi p d (2 ^ 20)) (hd : d ≤ 60) : shO st (.ref k) = some p.shown := by
  have lay : PyData.layable0 p = true := by
    show (PyData.canLay0 p && decide (PyData.depth p ≤ 64) && decide (PyData.weight p ≤ 2 ^ 20)) = true
    have := h.dp
    rw [h.cl, decide_eq_true (show PyData.depth p ≤ 64 by omega), decide_eq_true h.wt]
    rfl
  have ln := PyData.shown_le_of_layable0 lay h.si
  show (toP st DEEP (.ref k)).bind _ = _
  rw [e, Option.bind_some, if_pos ⟨h.sh, h.nd, by unfold LIM; omega⟩]
def Wo.p : Wo → PyData
  | .tx k l => .tuple [.str (mkS k), .str (mkS l)]
  | .nu n => .tuple [.str (mkS [110, 117, 109, 98, 101, 114]), .int (n : Nat)]
def Wo.Ok : Wo → Prop
  | .tx k l => k.length ≤ 6 ∧ l.length ≤ 40 ∧ okS k = true ∧ ∀ c ∈ l, c < 128
  | .nu n => n < 10 ^ 12
theorem Wo.fi {w : Wo} (h : w.Ok) : Fi w.p 1 100 := by
  cases w with
  | tx k l =>
    obtain ⟨h1, h2, h3, h4⟩ := h
    refine Fi.tup (d := 0) (w := 41) (fun p hp => ?_) (by show 2 * 42 ≤ 100; decide)
    simp only [List.mem_cons, List.not_mem_nil, or_false] at hp
    rcases hp with rfl | rfl
    · exact Fi.str h3 (by omega)
    · exact Fi.str (okS_128 h4) (by omega)
  | nu n =>
    refine Fi.tup (d := 0) (w := 41) (fun p hp => ?_) (by show 2 * 42 ≤ 100; decide)
    simp only [List.mem_cons, List.not_mem_nil, or_false] at hp
    rcases hp with rfl | rfl
    · exact Fi.str (by decide) (by decide)
    · have hn : n < 10 ^ 12 := h
      exact Fi.int (by rw [Int.natAbs_natCast]; exact hn) (Nat.le_refl _)
theorem wd_toP (st : Sto) (n : Nat) (w : Wo) : toP st (n + 2) w.d = some w.p := by
  cases w <;> rfl
theorem wds_toP (st : Sto) (n : Nat) : ∀ ws : List Wo, mapO (toP st (n + 2)) (ws.map Wo.d) = some (ws.map Wo.p)
  | [] => rfl
  | w :: r => by
    show (toP st (n + 2) w.d).bind _ = _
    rw [wd_toP, Option.bind_some, wds_toP st n r]
    rfl
def oP : Option (List Wo) → PyData
  | none => .none
  | some ws => .list (ws.map Wo.p)
def OkO (o : Option (List Wo)) : Prop := ∀ ws, o = some ws → (∀ w ∈ ws, w.Ok) ∧ ws.length ≤ 200
theorem OkO.fi {o : Option (List Wo)} (h : OkO o) : Fi (oP o) 2 20200 := by
  cases o with
  | none => exact .non
  | some ws =>
    obtain ⟨h1, h2⟩ := h ws rfl
    refine Fi.list (d := 1) (w := 100) (fun p hp => ?_) ?_
    · obtain ⟨w, hw, rfl⟩ := List.mem_map.mp hp
      exact Wo.fi (h1 w hw)
    · rw [List.length_map]
      show ws.length * 101 ≤ 20200
      omega
theorem digits_lt : ∀ (cs : List Nat) (acc : Nat), (∀ c ∈ cs, 48 ≤ c ∧ c ≤ 57) → cs.foldl (fun acc c => acc * 10 + (c - 48)) acc < (acc + 1) * 10 ^ cs.length
  | [], acc, _ => by
    show acc < (acc + 1) * 1
    omega
  | c :: r, acc, h => by
    have hc := h c (.head _)
    have ih := digits_lt r (acc * 10 + (c - 48)) fun y hy => h y (.tail _ hy)
    rw [List.foldl_cons, List.length_cons, Nat.pow_succ]
    have h2 : (acc * 10 + (c - 48) + 1) * 10 ^ r.length ≤ ((acc + 1) * 10) * 10 ^ r.length := Nat.mul_le_mul_right _ (by omega)
    have h3 : ((acc + 1) * 10) * 10 ^ r.length = (acc + 1) * (10 ^ r.length * 10) := by rw [Nat.mul_assoc, Nat.mul_comm 10]
    omega
theorem tl_len : ∀ m ∈ TL0, m.length ≤ 8 := by decide
theorem lfu_128 : ∀ c ∈ LFU, c < 128 := by decide
theorem run_ok {c : Nat} {r : List Nat} (h : ∀ y ∈ c :: r, isW y = true) {w : Wo} (e : runO c r = some w) : w.Ok := by
  have h128 : ∀ y ∈ c :: r, y < 128 := fun y hy => lfu_128 y (of_decide_eq_true (h y hy))
  unfold runO at e
  split at e
  · rename_i ht
    injection e with e
    subst e
    have := tl_len _ (of_decide_eq_true ht)
    exact ⟨by decide, by omega, by decide, h128⟩
  · split at e
    · rename_i hn
      injection e with e
      subst e
      rw [Bool.and_eq_true] at hn
      have := of_decide_eq_true hn.1
      exact ⟨by decide, by omega, by decide, h128⟩
    · split at e
      · rename_i hn
        injection e with e
        subst e
        rw [Bool.and_eq_true, Bool.and_eq_true] at hn
        have h12 := of_decide_eq_true hn.1.2
        have dl := digits_lt (c :: r) 0 fun y hy => fig_of (of_decide_eq_true (List.all_eq_true.mp hn.1.1 y hy))
        have hp : (10 : Nat) ^ (c :: r).length ≤ 10 ^ 12 := Nat.pow_le_pow_right (by decide) h12
        show NumText.digitsVal (c :: r) < 10 ^ 12
        unfold NumText.digitsVal
        omega
      · cases e
theorem word1_ok {c : Nat} {r : List Nat} (ha : ∀ y ∈ c :: r, y < 128) {w : Wo} {k : Nat} (e : word1 c r = some (w, k)) : w.Ok := by
  unfold word1 at e
  split at e
  · rename_i hw
    obtain ⟨w', h1, h2⟩ := Option.map_eq_some_iff.mp e
    injection h2 with h2
    subst h2
    exact run_ok (fun y hy => by
      rcases List.mem_cons.mp hy with rfl | hy
      · exact hw
      · exact mem_tw hy) h1
  · split at e
    · unfold textO at e
      split at e
      · rename_i hc
        injection e with e
        injection e with e _
        subst e
        rw [Bool.and_eq_true] at hc
        exact ⟨by decide, of_decide_eq_true hc.2, by decide, fun y hy => ha y (.tail _ ((List.takeWhile_prefix _).subset hy))⟩
      · cases e
    · unfold markO at e
      split at e
      · injection e with e
        injection e with e _
        subst e
        exact ⟨by decide, by rw [List.length_take]; omega, by decide, fun y hy => ha y (List.mem_of_mem_take hy)⟩
      · split at e
        · injection e with e
          injection e with e _
          subst e
          exact ⟨by decide, by simp, by decide, fun y hy => ha y (by rw [List.mem_singleton.mp hy]; exact .head _)⟩
        · cases e
theorem wds_ok : ∀ (n : Nat) (l : List Nat) (ws : List Wo), (∀ c ∈ l, c < 128) → wds n l = some ws → (∀ w ∈ ws, w.Ok) ∧ ws.length ≤ l.length
  | 0, l, ws, _, e => by
    cases e
    exact ⟨(fun w hw => by cases hw), Nat.zero_le _⟩
  | n + 1, [], ws, _, e => by
    cases e
    exact ⟨(fun w hw => by cases hw), Nat.zero_le _⟩
  | n + 1, c :: r, ws, ha, e => by
    unfold wds at e
    split at e
    · cases e
      exact ⟨(fun w hw => by cases hw), Nat.zero_le _⟩
    · split at e
      · obtain ⟨h1, h2⟩ := wds_ok n r ws (fun y hy => ha y (.tail _ hy)) e
        exact ⟨h1, by rw [List.length_cons]; omega⟩
      · split at e
        · cases e
        · rename_i w k hw
          obtain ⟨ws', h1, h2⟩ := Option.map_eq_some_iff.mp e
          subst h2
          have kl := word1_len hw
          obtain ⟨h3, h4⟩ := wds_ok n ((c :: r).drop k) ws' (fun y hy => ha y (List.mem_of_mem_drop hy)) h1
          rw [List.length_drop, List.length_cons] at h4
          refine ⟨fun x hx => ?_, by rw [List.length_cons, List.length_cons]; omega⟩
          rcases List.mem_cons.mp hx with rfl | hx
          · exact word1_ok ha hw
          · exact h3 x hx
end Math

set_option maxRecDepth 100000
set_option maxHeartbeats 4000000
namespace Math
open MP Text PySem
structure Row (l : List Nat) : Prop where
  le : l.length ≤ 75
  a : ∀ c ∈ l, c < 128
  n : 10 ∉ l
def wdO (l : List Nat) : Option (List Wo) := wds (l.length + 1) l
def isE : Option (List Wo) → Bool
  | some [] => true
  | _ => false
def inP (n : Nat) : PyData := if n % 4 = 0 ∧ n ≤ 48 then .int ((n / 4 : Nat) : Int) else .none
def TO (F : Nat) (o : Option (List Wo)) (st : Sto) (d : D) : Prop := (∃ ws p, o = some ws ∧ d = .ref p ∧ st[p]? = some (.lst (ws.map Wo.d)) ∧ p ≠ F) ∨ (o = none ∧ d = .non)
theorem TO.only {F : Nat} {o : Option (List Wo)} {st st' : Sto} {d : D} (h : TO F o st d) (g : Only [F] st st') : TO F o st' d := by
  rcases h with ⟨ws, p, e1, e2, e3, e4⟩ | h
  · exact .inl ⟨ws, p, e1, e2, g _ _ (fun z => e4 (List.mem_singleton.mp z)) e3, e4⟩
  · exact .inr h
theorem TO.only0 {F : Nat} {o : Option (List Wo)} {st st' : Sto} {d : D} (h : TO F o st d) (g : Only [] st st') : TO F o st' d := h.only (g.more (by simp))
theorem TO.toP {F : Nat} {o : Option (List Wo)} {st : Sto} {d : D} (h : TO F o st d) (n : Nat) : MP.toP st (n + 3) d = some (oP o) := by
  rcases h with ⟨ws, p, rfl, rfl, e3, _⟩ | ⟨rfl, rfl⟩
  · show (match rdL st p with | some ds => (mapO (MP.toP st (n + 2)) ds).map PyData.list | none => none) = _
    have : rdL st p = some (ws.map Wo.d) := by
      unfold rdL
      rw [e3]
    rw [this]
    simp only [wds_toP, Option.map_some]
    rfl
  · rfl
theorem oP_shown_none : (oP none).shown = "None" := rfl
theorem ok75 {l : List Nat} (h : Row l) : Fi (oP (wdO l)) 2 7575 := by
  cases ho : wdO l with
  | none => exact .non
  | some ws =>
    obtain ⟨h1, h2⟩ := wds_ok _ l ws h.a ho
    have := h.le
    refine Fi.list (d := 1) (w := 100) (fun p hp => ?_) ?_
    · obtain ⟨w, hw, rfl⟩ := List.mem_map.mp hp
      exact Wo.fi (h1 w hw)
    · rw [List.length_map]
      show ws.length * 101 ≤ 7575
      omega
theorem TO.sh {F : Nat} {l : List Nat} {st : Sto} {d : D} (h : TO F (wdO l) st d) (hr : Row l) : shO st d = some (oP (wdO l)).shown := by
  have e := h.toP (n := 47)
  have f := ok75 hr
  rcases h with ⟨ws, p, h1, rfl, e3, _⟩ | ⟨h1, rfl⟩
  · exact sh_ref e (⟨f.cl, f.dp, Nat.le_trans f.wt (by decide), f.si, f.sh, f.nd⟩) (by decide)
  · rw [h1]
    rfl
theorem TO.ne {F : Nat} {o : Option (List Wo)} {st : Sto} {d : D} {k : Nat} (h : TO F o st d) (hk : rdL st k = some []) : eqO st d (.ref k) = some (isE o) := by
  have e1 : MP.toP st DEEP d = some (oP o) := h.toP (n := 47)
  have e2 : MP.toP st DEEP (.ref k) = some (.list []) := by
    show (match rdL st k with | some ds => (mapO (MP.toP st 49) ds).map PyData.list | none => none) = _
    rw [hk]
    rfl
  unfold eqO
  rw [e1, e2]
  cases o with
  | none => simp [oP, PyData.eqv, isE]
  | some ws =>
    cases ws with
    | nil => simp [oP, PyData.eqv, PyData.eqvAll, isE]
    | cons w r => simp [oP, PyData.eqv, PyData.eqvAll, isE]
theorem tells_TO {F : Nat} {o : Option (List Wo)} {st st' : Sto} {d : D} (h : Tells o st st' d) (hF : F < st.length) : TO F o st' d := by
  rcases h.2 with ⟨ws, p, e1, e2, e3, e4, _⟩ | h
  · exact .inl ⟨ws, p, e1, e2, e3, by omega⟩
  · exact .inr h
structure Ey where
  i : Nat
  l : List Nat
  d : D
def Ey.ed (e : Ey) : D := .tup [.int (e.i : Nat), inD (sp e.l), e.d]
def entP (i : Nat) (l : List Nat) : PyData := .tuple [.int (i : Nat), inP (sp l), oP (wdO l)]
theorem in_toP (st : Sto) (n m : Nat) : MP.toP st (n + 1) (inD m) = some (inP m) := by
  unfold inD inP
  split <;> rfl
theorem ed_toP {F : Nat} {st : Sto} {e : Ey} (h : TO F (wdO e.l) st e.d) (n : Nat) : MP.toP st (n + 4) e.ed = some (entP e.i e.l) := by
  have e1 := in_toP st (n + 2) (sp e.l)
  have e2 := h.toP (n := n)
  have e0 : MP.toP st (n + 3) (.int (e.i : Nat)) = some (.int (e.i : Nat)) := rfl
  show (mapO (MP.toP st (n + 3)) [.int (e.i : Nat), inD (sp e.l), e.d]).map PyData.tuple = _
  simp only [mapO, e0, e1, e2, Option.bind_some, Option.map_some]
  rfl
theorem eds_toP {F : Nat} {st : Sto} (n : Nat) : ∀ {es : List Ey}, (∀ e ∈ es, TO F (wdO e.l) st e.d) → mapO (MP.toP st (n + 4)) (es.map Ey.ed) = some (es.map fun e => entP e.i e.l)
  | [], _ => rfl
  | e :: r, h => by
    show (MP.toP st (n + 4) e.ed).bind _ = _
    rw [ed_toP (h e (.head _)) n, Option.bind_some, eds_toP n fun x hx => h x (.tail _ hx)]
    rfl
theorem list_toP {F k : Nat} {st : Sto} {es : List Ey} (h : ∀ e ∈ es, TO F (wdO e.l) st e.d) (hk : st[k]? = some (.lst (es.map Ey.ed))) : MP.toP st DEEP (.ref k) = some (.list (es.map fun e => entP e.i e.l)) := by
  show (match rdL st k with | some ds => (mapO (MP.toP st 49) ds).map PyData.list | none => none) = _
  have : rdL st k = some (es.map Ey.ed) := by
    unfold rdL
    rw [hk]
  rw [this]
  simp only [eds_toP 45 h, Option.map_some]
def ents : Nat → List (List Nat) → List PyData
  | _, [] => []
  | a, l :: r => (if isE (wdO l) = true then [] else [entP a l]) ++ ents (a + 1) r
theorem ents_fi : ∀ (rows : List (List Nat)) (a : Nat), (∀ l ∈ rows, Row l) → a + rows.length ≤ 100 → (∀ p ∈ ents a rows, Fi p 3 22728) ∧ (ents a rows).length ≤ rows.length
  | [], a, _, _ => ⟨(fun p hp => by cases hp), Nat.le_refl _⟩
  | l :: r, a, h, ha => by
    rw [List.length_cons] at ha
    obtain ⟨h1, h2⟩ := ents_fi r (a + 1) (fun x hx => h x (.tail _ hx)) (by omega)
    have hl := h l (.head _)
    have fe : Fi (entP a l) 3 22728 := by
      refine Fi.tup (d := 2) (w := 7575) (fun p hp => ?_) (by show 3 * 7576 ≤ 22728; decide)
      simp only [List.mem_cons, List.not_mem_nil, or_false] at hp
      rcases hp with rfl | rfl | rfl
      · refine Fi.int ?_ (by decide)
        rw [Int.natAbs_natCast]
        have : (10 : Nat) ^ 12 = 1000000000000 := by decide
        omega
      · unfold inP
        split
        · rename_i hq
          refine Fi.int ?_ (by decide)
          rw [Int.natAbs_natCast]
          have : (10 : Nat) ^ 12 = 1000000000000 := by decide
          have := hq.2
          omega
        · exact .non
      · exact ok75 hl
    constructor
    · intro p hp
      rcases List.mem_append.mp hp with hp | hp
      · split at hp
        · cases hp
        · rw [List.mem_singleton.mp hp]
          exact fe
      · exact h1 p hp
    · show ((if isE (wdO l) = true then [] else [entP a l]) ++ ents (a + 1) r).length ≤ _
      rw [List.length_append, List.length_cons]
      split <;> simp <;> omega
theorem due_sh {k : Nat} {st : Sto} {rows : List (List Nat)} (hr : ∀ l ∈ rows, Row l) (hl : rows.length ≤ 40) (e : MP.toP st DEEP (.ref k) = some (.list (ents 0 rows))) : shO st (.ref k) = some (PyData.list (ents 0 rows)).shown := by
  obtain ⟨h1, h2⟩ := ents_fi rows 0 hr (by omega)
  exact sh_ref e (Fi.list (d := 3) (w := 22728) h1 (by
    have : (2 : Nat) ^ 20 = 1048576 := by decide
    have h3 : (ents 0 rows).length * 22729 ≤ 40 * 22729 := Nat.mul_le_mul_right _ (by omega)
    omega)) (by decide)
end Math

set_option maxRecDepth 100000
set_option maxHeartbeats 4000000
namespace Math
open MP Text PySem
def enumF : Nat → List (List Nat) → List D
  | _, [] => []
  | a, l :: r => .tup [.int (a : Nat), .str l] :: enumF (a + 1) r
theorem enumF_at : ∀ (rows : List (List Nat)) (a i : Nat), (enumF a rows)[i]? = rows[i]?.map fun l => D.tup [.int ((a + i : Nat) : Int), .str l]
  | [], _, _ => rfl
  | l :: r, a, 0 => rfl
  | l :: r, a, i + 1 => by
    show (enumF (a + 1) r)[i]? = _
    rw [enumF_at r (a + 1) i, show a + 1 + i = a + (i + 1) by omega]
    rfl
theorem enumD_is (rows : List (List Nat)) : enumD (rows.map D.str) = enumF 0 rows := by
  apply List.ext_getElem?
  intro i
  rw [enumF_at, Nat.zero_add]
  unfold enumD
  rw [List.getElem?_map, List.length_map]
  by_cases h : i < rows.length
  · rw [List.getElem?_range h]
    simp [List.getD_eq_getElem?_getD, h]
  · rw [List.getElem?_eq_none (by rw [List.length_range]; omega), List.getElem?_eq_none (by omega)]
    rfl
theorem isE_bl (o : Option (List Wo)) : (isE o = true) ∨ (isE o = false) := by cases isE o <;> simp
theorem inD_isnt (n : Nat) : (∃ i : Int, inD n = .int i) ∨ inD n = .non := by
  unfold inD
  split
  · exact .inl ⟨_, rfl⟩
  · exact .inr rfl
theorem ro_turn (F : Nat) (l : List Nat) (hr : Row l) (a : Nat) (es : List Ey) (st : Sto) (x0 x4 : Option D) (hF : st[F]? = some (.lst (es.map Ey.ed))) (hT : ∀ e ∈ es, TO F (wdO e.l) st e.d) (hl : es.length ≤ 100) :
    ∃ (es' : List Ey) (st' : Sto) (y4 : Option D), uF_rows_of_1 [x0, some (.ref F), some (.int (a : Nat)), some (.str l), x4] st = some (.nx, [x0, some (.ref F), some (.int (a : Nat)), some (.str l), y4], st') ∧ Only [F] st st' ∧ st'[F]? = some (.lst (es'.map Ey.ed)) ∧ (∀ e ∈ es', TO F (wdO e.l) st' e.d) ∧ (es'.map fun e => entP e.i e.l) = (es.map fun e => entP e.i e.l) ++ (if isE (wdO l) = true then [] else [entP a l]) ∧ es'.length ≤ es.length + 1 := by
  have hle := hr.le
  have Fl := (List.getElem?_eq_some_iff.mp hF).1
  obtain ⟨d, st1, e1, t1⟩ := words_of (l := l) (by omega) st
  have T1 : TO F (wdO l) st1 d := tells_TO t1 Fl
  have o1 := t1.1
  have T2 := T1.only0 (st' := st1 ++ [.lst []]) Only.grow
  have ne := T2.ne (k := st1.length) (rdL_end st1 [] [])
  have hF2 : (st1 ++ [Ob.lst []])[F]? = some (.lst (es.map Ey.ed)) := get_grow (o1 _ _ (by simp) hF)
  have o2 : Only [] st (st1 ++ [.lst []]) := o1.trans Only.grow
  generalize hs : st1 ++ [Ob.lst []] = s2 at T2 ne hF2 o2
  cases hE : isE (wdO l) with
  | true =>
    rw [hE] at ne
    refine ⟨es, s2, some d, ?_, o2.more (by simp), hF2, fun e he => (hT e he).only0 o2, by simp, by omega⟩
    simp only [uF_rows_of_1, eVar_at, kVar_some, eC_at, eBin_at, k2_some, k3_some, eUn_at, k1_some, kVal_some, kBl_some, kEq_at, kBlN_some, kNe_at, kIn_at, kNotIn_at, kIx_at, ixO_tup, kLt_int, kLe_int, kGt_int, kGe_int, kLt_str, kLe_str, kGt_str, kGe_str, kIs_non, kIs_bl, kIs_int, kIs_str, kIs_tup, kIs_ref, kIsNot_non, kIsNot_bl, kIsNot_int, kIsNot_str, kIsNot_tup, kIsNot_ref, opAdd_int, opAdd_str, opSub_int, opMul_int, opDiv_int, opMod_int, opPow_int, opAnd_int, opOr_int, opNeg_int, eChain_at, kc1_some, kc2_some, kc3_true, kc3_false, kc4_some, tOf_at, kTru_some, kTru2_some, truD_non, truD_bl, truD_int, truD_tup, tAnd_at, kAnd_true, kAnd_false, tOr_at, kOr_true, kOr_false, tNot_at, kNot_some, tYes_at, eAnd_at, keAnd_some, keAnd2_true, keAnd2_false, eOr_at, keOr_some, keOr2_true, keOr2_false, eNot_at, keNot_some, keNot2_some, eIf_at, keIf_true, keIf_false, aNil_at, aCons_at, ka1_some, ka2_some, eTup_at, kTup_0, kTup_1, kTup_2, kTup_3, kTup_4, kTup_5, kTup_6, eLst_at, kLst_0, kLst_1, kLst_2, kLst_3, kLst_4, eDic0_at, eCall_at, kCall_some, o1_at, isiO_at, kIsi_some, tyD_non, tyD_bl, tyD_int, tyD_str, tyD_tup, eBM_at, kbm1_some, kbm2_some, eSl_at, ks2_some, ks3_some, ks4_some, oNone_at, oSome_at, kSome_int, slO_str, sSeq_at, kSeq_nx, kSeq_rt, kSeq_bk, kSeq_ct, sNext_at, sBreak_at, sCont_at, sRetN_at, sRet_at, kRet_some, sExpr_at, kExpr_some, sSet_at, kSet_some, sIf_at, kIf_true, kIf_false, sPar2_k, kPar2_some, sPar3_k, kPar3_some, sAsg_at, kAsg_some, kAsg2_some, mName_at, mTup_2, mTup_3, mCons_at, kmCons_some, mNil_at, sPut_at, kp1_some, kp2_some, kp3_some, kp4_some, kFn_rt, kFn_nx, mkFn_0, mkFn_1, mkFn_2, mkFn_3, mkFn_4, mkFn_5, sWhile_at, List.getElem?_cons_zero, List.getElem?_cons_succ, List.set_cons_zero, List.set_cons_succ, List.replicate_succ, List.replicate_zero, Nat.reduceSub, Bool.not_true, Bool.not_false, ite_true, ite_false, if_true, if_false, reduceCtorEq, fldM_at, sFldM_at, kSF1_some, kSF2_some, kSF3_some, sFldAddM_at, kSA1_some, kSA2_int, eMake_at, kMk1_some, kMk2_some, isCM_at, isCO_non, eGet1_at, kG12_some, kG13_some, eGet2_at, kG22_some, kG23_some, eCallD_at, kCallD_some, eKdx_at, kKdx_some, kIsB_at, kEqE_at, kNeE_at, kInN_at, minF_at, dictF_at, atI0, atI1, eq_str, ixO_tup, lenO_tup, mTup_2, List.cons.injEq, Nat.reduceEqDiff, decide_false, decide_true, and_false, and_true, false_and, true_and, Bool.or_false, Bool.or_true, Bool.true_or, Bool.false_or, Bool.and_true, Bool.and_false, Bool.false_and, Bool.true_and, eReprC_at, kRep2_some, kRep3_some, Int.reduceLE, Int.reduceLT, e1, hs, ne]
  | false =>
    rw [hE] at ne
    have id := indent_is (l := l) (by omega) (okS_128 hr.a) s2
    obtain ⟨a1, a2, a3⟩ := app_d hF2 (by rw [List.length_map]; omega) (Ey.ed ⟨a, l, d⟩)
    have oz : Only [F] s2 (s2.set F (.lst (es.map Ey.ed ++ [Ey.ed ⟨a, l, d⟩]))) := Only.set (.head _)
    refine ⟨es ++ [⟨a, l, d⟩], s2.set F (.lst (es.map Ey.ed ++ [Ey.ed ⟨a, l, d⟩])), some d, ?_, (o2.more (by simp)).trans oz, ?_, fun e he => ?_, ?_, by simp⟩
    · have ed : Ey.ed ⟨a, l, d⟩ = .tup [.int (a : Nat), inD (sp l), d] := rfl
      rw [ed] at a1 ⊢
      simp only [uF_rows_of_1, eVar_at, kVar_some, eC_at, eBin_at, k2_some, k3_some, eUn_at, k1_some, kVal_some, kBl_some, kEq_at, kBlN_some, kNe_at, kIn_at, kNotIn_at, kIx_at, ixO_tup, kLt_int, kLe_int, kGt_int, kGe_int, kLt_str, kLe_str, kGt_str, kGe_str, kIs_non, kIs_bl, kIs_int, kIs_str, kIs_tup, kIs_ref, kIsNot_non, kIsNot_bl, kIsNot_int, kIsNot_str, kIsNot_tup, kIsNot_ref, opAdd_int, opAdd_str, opSub_int, opMul_int, opDiv_int, opMod_int, opPow_int, opAnd_int, opOr_int, opNeg_int, eChain_at, kc1_some, kc2_some, kc3_true, kc3_false, kc4_some, tOf_at, kTru_some, kTru2_some, truD_non, truD_bl, truD_int, truD_tup, tAnd_at, kAnd_true, kAnd_false, tOr_at, kOr_true, kOr_false, tNot_at, kNot_some, tYes_at, eAnd_at, keAnd_some, keAnd2_true, keAnd2_false, eOr_at, keOr_some, keOr2_true, keOr2_false, eNot_at, keNot_some, keNot2_some, eIf_at, keIf_true, keIf_false, aNil_at, aCons_at, ka1_some, ka2_some, eTup_at, kTup_0, kTup_1, kTup_2, kTup_3, kTup_4, kTup_5, kTup_6, eLst_at, kLst_0, kLst_1, kLst_2, kLst_3, kLst_4, eDic0_at, eCall_at, kCall_some, o1_at, isiO_at, kIsi_some, tyD_non, tyD_bl, tyD_int, tyD_str, tyD_tup, eBM_at, kbm1_some, kbm2_some, eSl_at, ks2_some, ks3_some, ks4_some, oNone_at, oSome_at, kSome_int, slO_str, sSeq_at, kSeq_nx, kSeq_rt, kSeq_bk, kSeq_ct, sNext_at, sBreak_at, sCont_at, sRetN_at, sRet_at, kRet_some, sExpr_at, kExpr_some, sSet_at, kSet_some, sIf_at, kIf_true, kIf_false, sPar2_k, kPar2_some, sPar3_k, kPar3_some, sAsg_at, kAsg_some, kAsg2_some, mName_at, mTup_2, mTup_3, mCons_at, kmCons_some, mNil_at, sPut_at, kp1_some, kp2_some, kp3_some, kp4_some, kFn_rt, kFn_nx, mkFn_0, mkFn_1, mkFn_2, mkFn_3, mkFn_4, mkFn_5, sWhile_at, List.getElem?_cons_zero, List.getElem?_cons_succ, List.set_cons_zero, List.set_cons_succ, List.replicate_succ, List.replicate_zero, Nat.reduceSub, Bool.not_true, Bool.not_false, ite_true, ite_false, if_true, if_false, reduceCtorEq, fldM_at, sFldM_at, kSF1_some, kSF2_some, kSF3_some, sFldAddM_at, kSA1_some, kSA2_int, eMake_at, kMk1_some, kMk2_some, isCM_at, isCO_non, eGet1_at, kG12_some, kG13_some, eGet2_at, kG22_some, kG23_some, eCallD_at, kCallD_some, eKdx_at, kKdx_some, kIsB_at, kEqE_at, kNeE_at, kInN_at, minF_at, dictF_at, atI0, atI1, eq_str, ixO_tup, lenO_tup, mTup_2, List.cons.injEq, Nat.reduceEqDiff, decide_false, decide_true, and_false, and_true, false_and, true_and, Bool.or_false, Bool.or_true, Bool.true_or, Bool.false_or, Bool.and_true, Bool.and_false, Bool.false_and, Bool.true_and, eReprC_at, kRep2_some, kRep3_some, Int.reduceLE, Int.reduceLT, e1, hs, ne, id, a2, a1]
    · rw [List.map_append]
      exact a3
    · rcases List.mem_append.mp he with he | he
      · exact ((hT e he).only0 o2).only oz
      · rw [List.mem_singleton.mp he]
        exact T2.only oz
    · rw [List.map_append]
      rfl
theorem ro_loop (F q : Nat) (all : List D) (x0 : Option D) : ∀ (rest : List (List Nat)) (a : Nat) (es : List Ey) (st : Sto) (x2 x3 x4 : Option D), (∀ l ∈ rest, Row l) → st[q]? = some (.lst all) → F ≠ q → st[F]? = some (.lst (es.map Ey.ed)) → (∀ e ∈ es, TO F (wdO e.l) st e.d) → es.length + rest.length ≤ 100 →
    ∃ (es' : List Ey) (st' : Sto) (y2 y3 y4 : Option D), loopF (fun s => rdL s q = some all) (mTup 2 (mCons (mName 2) (mCons (mName 3) mNil))) uF_rows_of_1 (enumF a rest) [x0, some (.ref F), x2, x3, x4] st = some (.nx, [x0, some (.ref F), y2, y3, y4], st') ∧ Only [F] st st' ∧ st'[F]? = some (.lst (es'.map Ey.ed)) ∧ (∀ e ∈ es', TO F (wdO e.l) st' e.d) ∧ (es'.map fun e => entP e.i e.l) = (es.map fun e => entP e.i e.l) ++ ents a rest ∧ es'.length ≤ es.length + rest.length
  | [], a, es, st, x2, x3, x4, _, hq, hn, hF, hT, hl => by
    have rq : rdL st q = some all := by
      unfold rdL
      rw [hq]
    refine ⟨es, st, x2, x3, x4, ?_, Only.refl, hF, hT, by simp [ents], by simp⟩
    show loopF _ _ _ [] _ _ = _
    unfold loopF
    rw [if_pos rq]
  | l :: r, a, es, st, x2, x3, x4, hr, hq, hn, hF, hT, hl => by
    have rq : rdL st q = some all := by
      unfold rdL
      rw [hq]
    rw [List.length_cons] at hl
    obtain ⟨es1, s1, y4, e1, o1, hF1, hT1, hm1, l1⟩ := ro_turn F l (hr l (.head _)) a es st x0 x4 hF hT (by omega)
    obtain ⟨es2, s2, z2, z3, z4, e2, o2, hF2, hT2, hm2, l2⟩ := ro_loop F q all x0 r (a + 1) es1 s1 (some (.int (a : Nat))) (some (.str l)) y4 (fun x hx => hr x (.tail _ hx)) (o1 _ _ (fun z => hn (List.mem_singleton.mp z).symm) hq) hn hF1 hT1 (by omega)
    refine ⟨es2, s2, z2, z3, z4, ?_, o1.trans o2, hF2, hT2, ?_, by rw [List.length_cons]; omega⟩
    · have em : mTup 2 (mCons (mName 2) (mCons (mName 3) mNil)) (.tup [.int (a : Nat), .str l]) [x0, some (.ref F), x2, x3, x4] = some [x0, some (.ref F), some (.int (a : Nat)), some (.str l), x4] := rfl
      show loopF _ _ _ (.tup [.int (a : Nat), .str l] :: enumF (a + 1) r) _ _ = _
      unfold loopF
      rw [if_pos rq, em, Option.bind_some, e1, Option.bind_some]
      exact e2
    · rw [hm2, hm1, List.append_assoc]
      rfl
theorem rows_of {rows : List (List Nat)} (hne : rows ≠ []) (hr : ∀ l ∈ rows, Row l) (hn : rows.length ≤ 40) (hl : (joinD [10] rows).length ≤ 100000) (st : Sto) :
    ∃ (p : Nat) (st' : Sto) (es : List Ey), F_rows_of [.str (joinD [10] rows)] st = some (.ref p, st') ∧ Only [] st st' ∧ st.length ≤ p ∧ st'[p]? = some (.lst (es.map Ey.ed)) ∧ es.length ≤ 100 ∧ MP.toP st' DEEP (.ref p) = some (.list (ents 0 rows)) := by
  have sr := split_rows hne (fun l h => (hr l h).n) (fun l h => okS_128 (hr l h).a) hl (st ++ [.lst []])
  have hq : (st ++ [Ob.lst []] ++ [Ob.lst (rows.map D.str)])[(st ++ [Ob.lst []]).length]? = some (.lst (rows.map D.str)) := at_end _ _ []
  have hF : (st ++ [Ob.lst []] ++ [Ob.lst (rows.map D.str)])[st.length]? = some (.lst (([] : List Ey).map Ey.ed)) := get_grow (at_end _ _ [])
  have hnq : st.length ≠ (st ++ [Ob.lst []]).length := by simp
  obtain ⟨es, s2, y2, y3, y4, e2, o2, hF2, hT2, hm2, l2⟩ := ro_loop st.length (st ++ [Ob.lst []]).length (rows.map D.str) (some (.str (joinD [10] rows))) rows 0 [] _ none none none hr hq hnq hF (fun e he => by cases he) (by simpa using (by omega : rows.length ≤ 100))
  have iss : isS (st ++ [.lst []]) (.str (joinD [10] rows)) = true := rfl
  have it : iEn (aCons (eBM isS splitM (eVar 0) (aCons (eC (.str [10])) aNil)) aNil) [some (.str (joinD [10] rows)), some (.ref st.length), none, none, none] (st ++ [.lst []]) = some ((enumD (rows.map D.str), fun s => rdL s (st ++ [Ob.lst []]).length = some (rows.map D.str)), st ++ [Ob.lst []] ++ [Ob.lst (rows.map D.str)]) := by
    have g : aCons (eBM isS splitM (eVar 0) (aCons (eC (.str [10])) aNil)) aNil [some (.str (joinD [10] rows)), some (.ref st.length), none, none, none] (st ++ [.lst []]) = some ([.ref (st ++ [Ob.lst []]).length], st ++ [Ob.lst []] ++ [Ob.lst (rows.map D.str)]) := by
      simp only [eVar_at, kVar_some, eC_at, eBin_at, k2_some, k3_some, eUn_at, k1_some, kVal_some, kBl_some, kEq_at, kBlN_some, kNe_at, kIn_at, kNotIn_at, kIx_at, ixO_tup, kLt_int, kLe_int, kGt_int, kGe_int, kLt_str, kLe_str, kGt_str, kGe_str, kIs_non, kIs_bl, kIs_int, kIs_str, kIs_tup, kIs_ref, kIsNot_non, kIsNot_bl, kIsNot_int, kIsNot_str, kIsNot_tup, kIsNot_ref, opAdd_int, opAdd_str, opSub_int, opMul_int, opDiv_int, opMod_int, opPow_int, opAnd_int, opOr_int, opNeg_int, eChain_at, kc1_some, kc2_some, kc3_true, kc3_false, kc4_some, tOf_at, kTru_some, kTru2_some, truD_non, truD_bl, truD_int, truD_tup, tAnd_at, kAnd_true, kAnd_false, tOr_at, kOr_true, kOr_false, tNot_at, kNot_some, tYes_at, eAnd_at, keAnd_some, keAnd2_true, keAnd2_false, eOr_at, keOr_some, keOr2_true, keOr2_false, eNot_at, keNot_some, keNot2_some, eIf_at, keIf_true, keIf_false, aNil_at, aCons_at, ka1_some, ka2_some, eTup_at, kTup_0, kTup_1, kTup_2, kTup_3, kTup_4, kTup_5, kTup_6, eLst_at, kLst_0, kLst_1, kLst_2, kLst_3, kLst_4, eDic0_at, eCall_at, kCall_some, o1_at, isiO_at, kIsi_some, tyD_non, tyD_bl, tyD_int, tyD_str, tyD_tup, eBM_at, kbm1_some, kbm2_some, eSl_at, ks2_some, ks3_some, ks4_some, oNone_at, oSome_at, kSome_int, slO_str, sSeq_at, kSeq_nx, kSeq_rt, kSeq_bk, kSeq_ct, sNext_at, sBreak_at, sCont_at, sRetN_at, sRet_at, kRet_some, sExpr_at, kExpr_some, sSet_at, kSet_some, sIf_at, kIf_true, kIf_false, sPar2_k, kPar2_some, sPar3_k, kPar3_some, sAsg_at, kAsg_some, kAsg2_some, mName_at, mTup_2, mTup_3, mCons_at, kmCons_some, mNil_at, sPut_at, kp1_some, kp2_some, kp3_some, kp4_some, kFn_rt, kFn_nx, mkFn_0, mkFn_1, mkFn_2, mkFn_3, mkFn_4, mkFn_5, sWhile_at, List.getElem?_cons_zero, List.getElem?_cons_succ, List.set_cons_zero, List.set_cons_succ, List.replicate_succ, List.replicate_zero, Nat.reduceSub, Bool.not_true, Bool.not_false, ite_true, ite_false, if_true, if_false, reduceCtorEq, fldM_at, sFldM_at, kSF1_some, kSF2_some, kSF3_some, sFldAddM_at, kSA1_some, kSA2_int, eMake_at, kMk1_some, kMk2_some, isCM_at, isCO_non, eGet1_at, kG12_some, kG13_some, eGet2_at, kG22_some, kG23_some, eCallD_at, kCallD_some, eKdx_at, kKdx_some, kIsB_at, kEqE_at, kNeE_at, kInN_at, minF_at, dictF_at, atI0, atI1, eq_str, ixO_tup, lenO_tup, mTup_2, List.cons.injEq, Nat.reduceEqDiff, decide_false, decide_true, and_false, and_true, false_and, true_and, Bool.or_false, Bool.or_true, Bool.true_or, Bool.false_or, Bool.and_true, Bool.and_false, Bool.false_and, Bool.true_and, eReprC_at, kRep2_some, kRep3_some, Int.reduceLE, Int.reduceLT, iss, sr]
    have rq : rdL (st ++ [Ob.lst []] ++ [Ob.lst (rows.map D.str)]) (st ++ [Ob.lst []]).length = some (rows.map D.str) := rdL_end _ _ []
    unfold iEn
    rw [g, Option.bind_some]
    simp only [rq, Option.map_some]
  rw [enumD_is] at it
  have ef : sFor (iEn (aCons (eBM isS splitM (eVar 0) (aCons (eC (.str [10])) aNil)) aNil)) (mTup 2 (mCons (mName 2) (mCons (mName 3) mNil))) uF_rows_of_1 [some (.str (joinD [10] rows)), some (.ref st.length), none, none, none] (st ++ [.lst []]) = some (.nx, [some (.str (joinD [10] rows)), some (.ref st.length), y2, y3, y4], s2) := by
    rw [sFor_runC it]
    exact e2
  have o3 : Only [] st s2 := fun i x hi e => by
    have il : i < st.length := (List.getElem?_eq_some_iff.mp e).1
    exact o2 i x (fun z => by have := List.mem_singleton.mp z; omega) (get_grow (get_grow e))
  have tp := list_toP hT2 hF2
  rw [hm2] at tp
  refine ⟨st.length, s2, es, ?_, o3, Nat.le_refl _, hF2, by simp at l2; omega, tp⟩
  simp only [F_rows_of, b_rows_of, eVar_at, kVar_some, eC_at, eBin_at, k2_some, k3_some, eUn_at, k1_some, kVal_some, kBl_some, kEq_at, kBlN_some, kNe_at, kIn_at, kNotIn_at, kIx_at, ixO_tup, kLt_int, kLe_int, kGt_int, kGe_int, kLt_str, kLe_str, kGt_str, kGe_str, kIs_non, kIs_bl, kIs_int, kIs_str, kIs_tup, kIs_ref, kIsNot_non, kIsNot_bl, kIsNot_int, kIsNot_str, kIsNot_tup, kIsNot_ref, opAdd_int, opAdd_str, opSub_int, opMul_int, opDiv_int, opMod_int, opPow_int, opAnd_int, opOr_int, opNeg_int, eChain_at, kc1_some, kc2_some, kc3_true, kc3_false, kc4_some, tOf_at, kTru_some, kTru2_some, truD_non, truD_bl, truD_int, truD_tup, tAnd_at, kAnd_true, kAnd_false, tOr_at, kOr_true, kOr_false, tNot_at, kNot_some, tYes_at, eAnd_at, keAnd_some, keAnd2_true, keAnd2_false, eOr_at, keOr_some, keOr2_true, keOr2_false, eNot_at, keNot_some, keNot2_some, eIf_at, keIf_true, keIf_false, aNil_at, aCons_at, ka1_some, ka2_some, eTup_at, kTup_0, kTup_1, kTup_2, kTup_3, kTup_4, kTup_5, kTup_6, eLst_at, kLst_0, kLst_1, kLst_2, kLst_3, kLst_4, eDic0_at, eCall_at, kCall_some, o1_at, isiO_at, kIsi_some, tyD_non, tyD_bl, tyD_int, tyD_str, tyD_tup, eBM_at, kbm1_some, kbm2_some, eSl_at, ks2_some, ks3_some, ks4_some, oNone_at, oSome_at, kSome_int, slO_str, sSeq_at, kSeq_nx, kSeq_rt, kSeq_bk, kSeq_ct, sNext_at, sBreak_at, sCont_at, sRetN_at, sRet_at, kRet_some, sExpr_at, kExpr_some, sSet_at, kSet_some, sIf_at, kIf_true, kIf_false, sPar2_k, kPar2_some, sPar3_k, kPar3_some, sAsg_at, kAsg_some, kAsg2_some, mName_at, mTup_2, mTup_3, mCons_at, kmCons_some, mNil_at, sPut_at, kp1_some, kp2_some, kp3_some, kp4_some, kFn_rt, kFn_nx, mkFn_0, mkFn_1, mkFn_2, mkFn_3, mkFn_4, mkFn_5, sWhile_at, List.getElem?_cons_zero, List.getElem?_cons_succ, List.set_cons_zero, List.set_cons_succ, List.replicate_succ, List.replicate_zero, Nat.reduceSub, Bool.not_true, Bool.not_false, ite_true, ite_false, if_true, if_false, reduceCtorEq, fldM_at, sFldM_at, kSF1_some, kSF2_some, kSF3_some, sFldAddM_at, kSA1_some, kSA2_int, eMake_at, kMk1_some, kMk2_some, isCM_at, isCO_non, eGet1_at, kG12_some, kG13_some, eGet2_at, kG22_some, kG23_some, eCallD_at, kCallD_some, eKdx_at, kKdx_some, kIsB_at, kEqE_at, kNeE_at, kInN_at, minF_at, dictF_at, atI0, atI1, eq_str, ixO_tup, lenO_tup, mTup_2, List.cons.injEq, Nat.reduceEqDiff, decide_false, decide_true, and_false, and_true, false_and, true_and, Bool.or_false, Bool.or_true, Bool.true_or, Bool.false_or, Bool.and_true, Bool.and_false, Bool.false_and, Bool.true_and, eReprC_at, kRep2_some, kRep3_some, Int.reduceLE, Int.reduceLT, ef]
end Math

set_option maxRecDepth 100000
set_option maxHeartbeats 4000000
namespace Math
open MP Text PySem
theorem eq_inD (st : Sto) (n : Nat) : eqO st (inD n) (inD n) = some true := by
  rcases inD_isnt n with ⟨i, h⟩ | h
  · rw [h, eqO_int]
    simp
  · rw [h]
    exact eqO_non st
theorem isa_inD (n : Nat) (st : Sto) : isiO [.bl] (inD n) st = some (.bl false, st) := by
  rcases inD_isnt n with ⟨i, h⟩ | h
  · rw [h]
    rfl
  · rw [h]
    rfl
theorem row_ix {R : Nat} {rows : List (List Nat)} {st : Sto} {a : Nat} {l : List Nat} (hR : st[R]? = some (.lst (rows.map D.str))) (h : rows[a]? = some l) : ixO (.ref R) (.int (a : Nat)) st = some (.str l) := by
  have rq : rdL st R = some (rows.map D.str) := by
    unfold rdL
    rw [hR]
  rw [ixO_lst rq]
  exact L2.atI_nat (by rw [List.getElem?_map, h]; rfl)
noncomputable def l2T : MS := (sSeq (sSet 6 (eCall F_indent_of (aCons (eBin kIx (eVar 2) (eVar 4)) aNil)))
    (sSeq (sIf (tOr (tOf (eBin kNe (eVar 6) (eCall F_l_indent (aCons (eBin kIx (eVar 2) (eVar 4)) aNil)))) (tOf (eUn (isiO [.bl]) (eVar 6)))) (sRet (eC (.bl false))) sNext)
    (sIf (tOf (eReprC true (eCall F_words_of (aCons (eBin kIx (eVar 2) (eVar 4)) aNil)) (eVar 5))) (sRet (eC (.bl false))) sNext)))
theorem l2_eq : uF_law_2 = (sSeq (sSet 5 (eCall F_l_words (aCons (eBin kIx (eVar 2) (eVar 4)) aNil)))
    (sSeq (sIf (tOf (eBin kNe (eVar 5) (eLst aNil))) (sExpr (eBM isL appM (eVar 3) (aCons (eTup (aCons (eVar 4) (aCons (eCall F_l_indent (aCons (eBin kIx (eVar 2) (eVar 4)) aNil)) (aCons (eVar 5) aNil)))) aNil))) sNext) l2T)) := rfl
theorem l2_turn {R F : Nat} {rows : List (List Nat)} (hRF : R ≠ F) {a : Nat} {l : List Nat} (hr : Row l) (ha : rows[a]? = some l) (es : List Ey) (st : Sto) (x0 x1 x5 x6 x7 : Option D) (hR : st[R]? = some (.lst (rows.map D.str))) (hF : st[F]? = some (.lst (es.map Ey.ed))) (hT : ∀ e ∈ es, TO F (wdO e.l) st e.d) (hl : es.length ≤ 100) :
    ∃ (es' : List Ey) (st' : Sto) (y5 y6 : Option D), uF_law_2 [x0, x1, some (.ref R), some (.ref F), some (.int (a : Nat)), x5, x6, x7] st = some (.nx, [x0, x1, some (.ref R), some (.ref F), some (.int (a : Nat)), y5, y6, x7], st') ∧ Only [F] st st' ∧ st'[F]? = some (.lst (es'.map Ey.ed)) ∧ (∀ e ∈ es', TO F (wdO e.l) st' e.d) ∧ (es'.map fun e => entP e.i e.l) = (es.map fun e => entP e.i e.l) ++ (if isE (wdO l) = true then [] else [entP a l]) ∧ es'.length ≤ es.length + 1 := by
  have hle := hr.le
  have Fl := (List.getElem?_eq_some_iff.mp hF).1
  have ix0 := row_ix hR ha
  obtain ⟨d, st1, e1, t1⟩ := lwords_is (l := l) (by omega) hr.a st
  have T1 : TO F (wdO l) st1 d := tells_TO t1 Fl
  have o1 := t1.1
  have T2 := T1.only0 (st' := st1 ++ [.lst []]) Only.grow
  have ne := T2.ne (k := st1.length) (rdL_end st1 [] [])
  have hF2 : (st1 ++ [Ob.lst []])[F]? = some (.lst (es.map Ey.ed)) := get_grow (o1 _ _ (by simp) hF)
  have o2 : Only [] st (st1 ++ [.lst []]) := o1.trans Only.grow
  have hR2 := o2 _ _ (by simp) hR
  generalize hs : st1 ++ [Ob.lst []] = s2 at T2 ne hF2 o2 hR2
  have id2 := lindent_is (l := l) (by omega) s2
  have ix2 := row_ix hR2 ha
  have tail : ∀ (s : Sto), s[R]? = some (.lst (rows.map D.str)) → TO F (wdO l) s d → F < s.length → ∃ s', Only [] s s' ∧ l2T [x0, x1, some (.ref R), some (.ref F), some (.int (a : Nat)), some d, x6, x7] s = some (.nx, [x0, x1, some (.ref R), some (.ref F), some (.int (a : Nat)), some d, some (inD (sp l)), x7], s') := fun s gR gT gF => by
    have ix := row_ix gR ha
    have q1 := indent_is (l := l) (by omega) (okS_128 hr.a) s
    have q2 := lindent_is (l := l) (by omega) s
    obtain ⟨d2, s2, e2, t2⟩ := words_of (l := l) (by omega) s
    have U1 := (tells_TO t2 gF).sh hr
    have U2 := (gT.only0 t2.1).sh hr
    have qe := eq_inD s (sp l)
    have qb := isa_inD (sp l) s
    have rp := kRep4_same U2
    generalize inD (sp l) = v at *
    refine ⟨s2, t2.1, ?_⟩
    simp only [l2T, eVar_at, kVar_some, eC_at, eBin_at, k2_some, k3_some, eUn_at, k1_some, kVal_some, kBl_some, kEq_at, kBlN_some, kNe_at, kIn_at, kNotIn_at, kIx_at, ixO_tup, kLt_int, kLe_int, kGt_int, kGe_int, kLt_str, kLe_str, kGt_str, kGe_str, kIs_non, kIs_bl, kIs_int, kIs_str, kIs_tup, kIs_ref, kIsNot_non, kIsNot_bl, kIsNot_int, kIsNot_str, kIsNot_tup, kIsNot_ref, opAdd_int, opAdd_str, opSub_int, opMul_int, opDiv_int, opMod_int, opPow_int, opAnd_int, opOr_int, opNeg_int, eChain_at, kc1_some, kc2_some, kc3_true, kc3_false, kc4_some, tOf_at, kTru_some, kTru2_some, truD_non, truD_bl, truD_int, truD_tup, tAnd_at, kAnd_true, kAnd_false, tOr_at, kOr_true, kOr_false, tNot_at, kNot_some, tYes_at, eAnd_at, keAnd_some, keAnd2_true, keAnd2_false, eOr_at, keOr_some, keOr2_true, keOr2_false, eNot_at, keNot_some, keNot2_some, eIf_at, keIf_true, keIf_false, aNil_at, aCons_at, ka1_some, ka2_some, eTup_at, kTup_0, kTup_1, kTup_2, kTup_3, kTup_4, kTup_5, kTup_6, eLst_at, kLst_0, kLst_1, kLst_2, kLst_3, kLst_4, eDic0_at, eCall_at, kCall_some, o1_at, isiO_at, kIsi_some, tyD_non, tyD_bl, tyD_int, tyD_str, tyD_tup, eBM_at, kbm1_some, kbm2_some, eSl_at, ks2_some, ks3_some, ks4_some, oNone_at, oSome_at, kSome_int, slO_str, sSeq_at, kSeq_nx, kSeq_rt, kSeq_bk, kSeq_ct, sNext_at, sBreak_at, sCont_at, sRetN_at, sRet_at, kRet_some, sExpr_at, kExpr_some, sSet_at, kSet_some, sIf_at, kIf_true, kIf_false, sPar2_k, kPar2_some, sPar3_k, kPar3_some, sAsg_at, kAsg_some, kAsg2_some, mName_at, mTup_2, mTup_3, mCons_at, kmCons_some, mNil_at, sPut_at, kp1_some, kp2_some, kp3_some, kp4_some, kFn_rt, kFn_nx, mkFn_0, mkFn_1, mkFn_2, mkFn_3, mkFn_4, mkFn_5, sWhile_at, List.getElem?_cons_zero, List.getElem?_cons_succ, List.set_cons_zero, List.set_cons_succ, List.replicate_succ, List.replicate_zero, Nat.reduceSub, Bool.not_true, Bool.not_false, ite_true, ite_false, if_true, if_false, reduceCtorEq, fldM_at, sFldM_at, kSF1_some, kSF2_some, kSF3_some, sFldAddM_at, kSA1_some, kSA2_int, eMake_at, kMk1_some, kMk2_some, isCM_at, isCO_non, eGet1_at, kG12_some, kG13_some, eGet2_at, kG22_some, kG23_some, eCallD_at, kCallD_some, eKdx_at, kKdx_some, kIsB_at, kEqE_at, kNeE_at, kInN_at, minF_at, dictF_at, atI0, atI1, eq_str, ixO_tup, lenO_tup, mTup_2, List.cons.injEq, Nat.reduceEqDiff, decide_false, decide_true, and_false, and_true, false_and, true_and, Bool.or_false, Bool.or_true, Bool.true_or, Bool.false_or, Bool.and_true, Bool.and_false, Bool.false_and, Bool.true_and, eReprC_at, kRep2_some, kRep3_some, Int.reduceLE, Int.reduceLT, ix, q1, q2, qe, qb, e2, U1, rp, -isiO_at]
  cases hE : isE (wdO l) with
  | true =>
    rw [hE] at ne
    obtain ⟨s', os, et⟩ := tail s2 hR2 T2 (List.getElem?_eq_some_iff.mp hF2).1
    refine ⟨es, s', some d, some (inD (sp l)), ?_, (o2.trans os).more (by simp), os _ _ (by simp) hF2, fun e he => ((hT e he).only0 o2).only0 os, by simp, by omega⟩
    rw [l2_eq]
    simp only [eVar_at, kVar_some, eC_at, eBin_at, k2_some, k3_some, eUn_at, k1_some, kVal_some, kBl_some, kEq_at, kBlN_some, kNe_at, kIn_at, kNotIn_at, kIx_at, ixO_tup, kLt_int, kLe_int, kGt_int, kGe_int, kLt_str, kLe_str, kGt_str, kGe_str, kIs_non, kIs_bl, kIs_int, kIs_str, kIs_tup, kIs_ref, kIsNot_non, kIsNot_bl, kIsNot_int, kIsNot_str, kIsNot_tup, kIsNot_ref, opAdd_int, opAdd_str, opSub_int, opMul_int, opDiv_int, opMod_int, opPow_int, opAnd_int, opOr_int, opNeg_int, eChain_at, kc1_some, kc2_some, kc3_true, kc3_false, kc4_some, tOf_at, kTru_some, kTru2_some, truD_non, truD_bl, truD_int, truD_tup, tAnd_at, kAnd_true, kAnd_false, tOr_at, kOr_true, kOr_false, tNot_at, kNot_some, tYes_at, eAnd_at, keAnd_some, keAnd2_true, keAnd2_false, eOr_at, keOr_some, keOr2_true, keOr2_false, eNot_at, keNot_some, keNot2_some, eIf_at, keIf_true, keIf_false, aNil_at, aCons_at, ka1_some, ka2_some, eTup_at, kTup_0, kTup_1, kTup_2, kTup_3, kTup_4, kTup_5, kTup_6, eLst_at, kLst_0, kLst_1, kLst_2, kLst_3, kLst_4, eDic0_at, eCall_at, kCall_some, o1_at, isiO_at, kIsi_some, tyD_non, tyD_bl, tyD_int, tyD_str, tyD_tup, eBM_at, kbm1_some, kbm2_some, eSl_at, ks2_some, ks3_some, ks4_some, oNone_at, oSome_at, kSome_int, slO_str, sSeq_at, kSeq_nx, kSeq_rt, kSeq_bk, kSeq_ct, sNext_at, sBreak_at, sCont_at, sRetN_at, sRet_at, kRet_some, sExpr_at, kExpr_some, sSet_at, kSet_some, sIf_at, kIf_true, kIf_false, sPar2_k, kPar2_some, sPar3_k, kPar3_some, sAsg_at, kAsg_some, kAsg2_some, mName_at, mTup_2, mTup_3, mCons_at, kmCons_some, mNil_at, sPut_at, kp1_some, kp2_some, kp3_some, kp4_some, kFn_rt, kFn_nx, mkFn_0, mkFn_1, mkFn_2, mkFn_3, mkFn_4, mkFn_5, sWhile_at, List.getElem?_cons_zero, List.getElem?_cons_succ, List.set_cons_zero, List.set_cons_succ, List.replicate_succ, List.replicate_zero, Nat.reduceSub, Bool.not_true, Bool.not_false, ite_true, ite_false, if_true, if_false, reduceCtorEq, fldM_at, sFldM_at, kSF1_some, kSF2_some, kSF3_some, sFldAddM_at, kSA1_some, kSA2_int, eMake_at, kMk1_some, kMk2_some, isCM_at, isCO_non, eGet1_at, kG12_some, kG13_some, eGet2_at, kG22_some, kG23_some, eCallD_at, kCallD_some, eKdx_at, kKdx_some, kIsB_at, kEqE_at, kNeE_at, kInN_at, minF_at, dictF_at, atI0, atI1, eq_str, ixO_tup, lenO_tup, mTup_2, List.cons.injEq, Nat.reduceEqDiff, decide_false, decide_true, and_false, and_true, false_and, true_and, Bool.or_false, Bool.or_true, Bool.true_or, Bool.false_or, Bool.and_true, Bool.and_false, Bool.false_and, Bool.true_and, eReprC_at, kRep2_some, kRep3_some, Int.reduceLE, Int.reduceLT, ix0, e1, hs, ne]
    exact et
  | false =>
    rw [hE] at ne
    obtain ⟨a1, a2, a3⟩ := app_d hF2 (by rw [List.length_map]; omega) (Ey.ed ⟨a, l, d⟩)
    have oz : Only [F] s2 (s2.set F (.lst (es.map Ey.ed ++ [Ey.ed ⟨a, l, d⟩]))) := Only.set (.head _)
    obtain ⟨s', os, et⟩ := tail (s2.set F (.lst (es.map Ey.ed ++ [Ey.ed ⟨a, l, d⟩]))) (oz _ _ (fun z => hRF (List.mem_singleton.mp z)) hR2) (T2.only oz) (by rw [List.length_set]; exact (List.getElem?_eq_some_iff.mp hF2).1)
    refine ⟨es ++ [⟨a, l, d⟩], s', some d, some (inD (sp l)), ?_, ((o2.more (by simp)).trans oz).trans (os.more (by simp)), ?_, fun e he => ?_, ?_, by simp⟩
    · have ed : Ey.ed ⟨a, l, d⟩ = .tup [.int (a : Nat), inD (sp l), d] := rfl
      rw [l2_eq]
      rw [ed] at a1 et
      simp only [eVar_at, kVar_some, eC_at, eBin_at, k2_some, k3_some, eUn_at, k1_some, kVal_some, kBl_some, kEq_at, kBlN_some, kNe_at, kIn_at, kNotIn_at, kIx_at, ixO_tup, kLt_int, kLe_int, kGt_int, kGe_int, kLt_str, kLe_str, kGt_str, kGe_str, kIs_non, kIs_bl, kIs_int, kIs_str, kIs_tup, kIs_ref, kIsNot_non, kIsNot_bl, kIsNot_int, kIsNot_str, kIsNot_tup, kIsNot_ref, opAdd_int, opAdd_str, opSub_int, opMul_int, opDiv_int, opMod_int, opPow_int, opAnd_int, opOr_int, opNeg_int, eChain_at, kc1_some, kc2_some, kc3_true, kc3_false, kc4_some, tOf_at, kTru_some, kTru2_some, truD_non, truD_bl, truD_int, truD_tup, tAnd_at, kAnd_true, kAnd_false, tOr_at, kOr_true, kOr_false, tNot_at, kNot_some, tYes_at, eAnd_at, keAnd_some, keAnd2_true, keAnd2_false, eOr_at, keOr_some, keOr2_true, keOr2_false, eNot_at, keNot_some, keNot2_some, eIf_at, keIf_true, keIf_false, aNil_at, aCons_at, ka1_some, ka2_some, eTup_at, kTup_0, kTup_1, kTup_2, kTup_3, kTup_4, kTup_5, kTup_6, eLst_at, kLst_0, kLst_1, kLst_2, kLst_3, kLst_4, eDic0_at, eCall_at, kCall_some, o1_at, isiO_at, kIsi_some, tyD_non, tyD_bl, tyD_int, tyD_str, tyD_tup, eBM_at, kbm1_some, kbm2_some, eSl_at, ks2_some, ks3_some, ks4_some, oNone_at, oSome_at, kSome_int, slO_str, sSeq_at, kSeq_nx, kSeq_rt, kSeq_bk, kSeq_ct, sNext_at, sBreak_at, sCont_at, sRetN_at, sRet_at, kRet_some, sExpr_at, kExpr_some, sSet_at, kSet_some, sIf_at, kIf_true, kIf_false, sPar2_k, kPar2_some, sPar3_k, kPar3_some, sAsg_at, kAsg_some, kAsg2_some, mName_at, mTup_2, mTup_3, mCons_at, kmCons_some, mNil_at, sPut_at, kp1_some, kp2_some, kp3_some, kp4_some, kFn_rt, kFn_nx, mkFn_0, mkFn_1, mkFn_2, mkFn_3, mkFn_4, mkFn_5, sWhile_at, List.getElem?_cons_zero, List.getElem?_cons_succ, List.set_cons_zero, List.set_cons_succ, List.replicate_succ, List.replicate_zero, Nat.reduceSub, Bool.not_true, Bool.not_false, ite_true, ite_false, if_true, if_false, reduceCtorEq, fldM_at, sFldM_at, kSF1_some, kSF2_some, kSF3_some, sFldAddM_at, kSA1_some, kSA2_int, eMake_at, kMk1_some, kMk2_some, isCM_at, isCO_non, eGet1_at, kG12_some, kG13_some, eGet2_at, kG22_some, kG23_some, eCallD_at, kCallD_some, eKdx_at, kKdx_some, kIsB_at, kEqE_at, kNeE_at, kInN_at, minF_at, dictF_at, atI0, atI1, eq_str, ixO_tup, lenO_tup, mTup_2, List.cons.injEq, Nat.reduceEqDiff, decide_false, decide_true, and_false, and_true, false_and, true_and, Bool.or_false, Bool.or_true, Bool.true_or, Bool.false_or, Bool.and_true, Bool.and_false, Bool.false_and, Bool.true_and, eReprC_at, kRep2_some, kRep3_some, Int.reduceLE, Int.reduceLT, ix0, e1, hs, ne, ix2, id2, a2, a1]
      exact et
    · rw [List.map_append]
      exact os _ _ (by simp) a3
    · refine TO.only0 ?_ os
      rcases List.mem_append.mp he with he | he
      · exact ((hT e he).only0 o2).only oz
      · rw [List.mem_singleton.mp he]
        exact T2.only oz
    · rw [List.map_append]
      rfl
theorem l2_loop {R F : Nat} {rows : List (List Nat)} (hRF : R ≠ F) (x0 x1 x7 : Option D) : ∀ (rest done : List (List Nat)) (es : List Ey) (st : Sto) (x4 x5 x6 : Option D), rows = done ++ rest → (∀ l ∈ rest, Row l) → st[R]? = some (.lst (rows.map D.str)) → st[F]? = some (.lst (es.map Ey.ed)) → (∀ e ∈ es, TO F (wdO e.l) st e.d) → es.length + rest.length ≤ 100 →
    ∃ (es' : List Ey) (st' : Sto) (y4 y5 y6 : Option D), loopF (fun _ => True) (mName 4) uF_law_2 (rngD (done.length : Nat) rest.length) [x0, x1, some (.ref R), some (.ref F), x4, x5, x6, x7] st = some (.nx, [x0, x1, some (.ref R), some (.ref F), y4, y5, y6, x7], st') ∧ Only [F] st st' ∧ st'[F]? = some (.lst (es'.map Ey.ed)) ∧ (∀ e ∈ es', TO F (wdO e.l) st' e.d) ∧ (es'.map fun e => entP e.i e.l) = (es.map fun e => entP e.i e.l) ++ ents done.length rest
  | [], done, es, st, x4, x5, x6, _, _, hR, hF, hT, _ => ⟨es, st, x4, x5, x6, loopF_nil, Only.refl, hF, hT, by simp [ents]⟩
  | l :: r, done, es, st, x4, x5, x6, hd, hr, hR, hF, hT, hl => by
    rw [List.length_cons] at hl
    have ha : rows[done.length]? = some l := by
      rw [hd, List.getElem?_append_right (Nat.le_refl _), Nat.sub_self]
      rfl
    obtain ⟨es1, s1, y5, y6, e1, o1, hF1, hT1, hm1, l1⟩ := l2_turn hRF (hr l (.head _)) ha es st x0 x1 x5 x6 x7 hR hF hT (by omega)
    obtain ⟨es2, s2, z4, z5, z6, e2, o2, hF2, hT2, hm2⟩ := l2_loop hRF x0 x1 x7 r (done ++ [l]) es1 s1 (some (.int (done.length : Nat))) y5 y6 (by rw [hd, List.append_assoc]; rfl) (fun x hx => hr x (.tail _ hx)) (o1 _ _ (fun z => hRF (List.mem_singleton.mp z)) hR) hF1 hT1 (by omega)
    have hdl : (done ++ [l]).length = done.length + 1 := by simp
    rw [hdl] at e2 hm2
    refine ⟨es2, s2, z4, z5, z6, ?_, o1.trans o2, hF2, hT2, ?_⟩
    · rw [List.length_cons, rngD_succ, loopF_cons]
      show kF1 (mName 4) uF_law_2 (rngD ((done.length : Int) + 1) r.length) st (some [x0, x1, some (.ref R), some (.ref F), some (.int (done.length : Nat)), x5, x6, x7]) = _
      rw [kF1_some, e1, kF2_nx]
      exact e2
    · rw [hm2, hm1, List.append_assoc]
      rfl
end Math

set_option maxRecDepth 100000
set_option maxHeartbeats 4000000
namespace Math
open MP Text PySem
theorem joinD_len : ∀ {rows : List (List Nat)}, (∀ l ∈ rows, l.length ≤ 75) → (joinD [10] rows).length ≤ rows.length * 76
  | [], _ => Nat.zero_le _
  | [l], h => by
    have := h l (.head _)
    show l.length ≤ 1 * 76
    omega
  | l :: q :: r, h => by
    have h1 := h l (.head _)
    have h2 := joinD_len fun x hx => h x (.tail l hx)
    have h3 : joinD [10] (l :: q :: r) = l ++ ([10] ++ joinD [10] (q :: r)) := rfl
    have h4 : ([10] : List Nat).length = 1 := rfl
    have h5 : (l :: q :: r).length = (q :: r).length + 1 := rfl
    rw [h3, List.length_append, List.length_append, h4, h5]
    omega
theorem sum75 : ∀ {rows : List (List Nat)}, (∀ l ∈ rows, l.length ≤ 75) → (rows.map List.length).sum ≤ rows.length * 75
  | [], _ => Nat.zero_le _
  | l :: r, h => by
    have h1 := h l (.head _)
    have h2 := sum75 fun x hx => h x (.tail l hx)
    rw [List.map_cons, List.sum_cons, List.length_cons]
    omega
theorem join_at {R : Nat} {rows : List (List Nat)} {st : Sto} (hR : st[R]? = some (.lst (rows.map D.str))) (hr : ∀ l ∈ rows, Row l) (hn : rows.length ≤ 40) : joinM (.str [10]) [.ref R] st = some (.str (joinD [10] rows), st) := by
  have rq : rdL st R = some (rows.map D.str) := by
    unfold rdL
    rw [hR]
  have h1 := sum75 fun l hl => (hr l hl).le
  have h2 : ([10] : List Nat).length = 1 := rfl
  show ((rdL st R).bind strsO).bind _ = _
  rw [rq, Option.bind_some, strs_map, Option.bind_some, if_pos (by rw [h2]; omega)]
theorem isa_l {st : Sto} {p : Nat} {xs : List D} (h : st[p]? = some (.lst xs)) : tyD st (.ref p) = some .lst := by
  show (match st[p]? with
    | some (.lst _) => some Ty.lst
    | some (.fz _) => some .lst
    | some (.dic _) => some .dic
    | _ => none) = _
  rw [h]
theorem l1_turn {R F : Nat} {rows : List (List Nat)} (hRF : R ≠ F) (hne : rows ≠ []) (hr : ∀ l ∈ rows, Row l) (hn : rows.length ≤ 40) (es : List Ey) (st : Sto) (x0 x1 x4 x5 x6 x7 : Option D) (hR : st[R]? = some (.lst (rows.map D.str))) (hF : st[F]? = some (.lst (es.map Ey.ed))) (hT : ∀ e ∈ es, TO F (wdO e.l) st e.d) (hm : (es.map fun e => entP e.i e.l) = ents 0 rows) :
    ∃ (st' : Sto) (y6 : Option D), uF_law_1 [x0, x1, some (.ref R), some (.ref F), x4, x5, x6, x7] st = some (.nx, [x0, x1, some (.ref R), some (.ref F), x4, x5, y6, x7], st') ∧ Only [] st st' := by
  have Fl := (List.getElem?_eq_some_iff.mp hF).1
  have j := join_at hR hr hn
  have jl := joinD_len fun l hl => (hr l hl).le
  obtain ⟨p, s1, es1, e1, o1, hp, hP, l1, tp⟩ := rows_of hne hr hn (by omega) st
  have is1 := isa_l hP
  have sh1 := due_sh hr hn tp
  have tF := list_toP (fun e he => (hT e he).only0 o1) (o1 _ _ (by simp) hF)
  rw [hm] at tF
  have sh2 := kRep4_same (due_sh hr hn tF)
  have hP2 : (s1 ++ [Ob.lst []])[p]? = some (.lst (es1.map Ey.ed)) := get_grow hP
  obtain ⟨a1, a2, a3⟩ := app_d hP2 (by rw [List.length_map]; omega) (.tup [.int 0, .int 0, .ref s1.length])
  have iss : isS st (.str [10]) = true := rfl
  have isl : isL s1 (.ref p) = true := (app_d hP (by rw [List.length_map]; omega) .non).2.1
  refine ⟨(s1 ++ [Ob.lst []]).set p (.lst (es1.map Ey.ed ++ [.tup [.int 0, .int 0, .ref s1.length]])), some (.ref p), ?_, ?_⟩
  · simp only [uF_law_1, eVar_at, kVar_some, eC_at, eBin_at, k2_some, k3_some, eUn_at, k1_some, kVal_some, kBl_some, kEq_at, kBlN_some, kNe_at, kIn_at, kNotIn_at, kIx_at, ixO_tup, kLt_int, kLe_int, kGt_int, kGe_int, kLt_str, kLe_str, kGt_str, kGe_str, kIs_non, kIs_bl, kIs_int, kIs_str, kIs_tup, kIs_ref, kIsNot_non, kIsNot_bl, kIsNot_int, kIsNot_str, kIsNot_tup, kIsNot_ref, opAdd_int, opAdd_str, opSub_int, opMul_int, opDiv_int, opMod_int, opPow_int, opAnd_int, opOr_int, opNeg_int, eChain_at, kc1_some, kc2_some, kc3_true, kc3_false, kc4_some, tOf_at, kTru_some, kTru2_some, truD_non, truD_bl, truD_int, truD_tup, tAnd_at, kAnd_true, kAnd_false, tOr_at, kOr_true, kOr_false, tNot_at, kNot_some, tYes_at, eAnd_at, keAnd_some, keAnd2_true, keAnd2_false, eOr_at, keOr_some, keOr2_true, keOr2_false, eNot_at, keNot_some, keNot2_some, eIf_at, keIf_true, keIf_false, aNil_at, aCons_at, ka1_some, ka2_some, eTup_at, kTup_0, kTup_1, kTup_2, kTup_3, kTup_4, kTup_5, kTup_6, eLst_at, kLst_0, kLst_1, kLst_2, kLst_3, kLst_4, eDic0_at, eCall_at, kCall_some, o1_at, isiO_at, kIsi_some, tyD_non, tyD_bl, tyD_int, tyD_str, tyD_tup, eBM_at, kbm1_some, kbm2_some, eSl_at, ks2_some, ks3_some, ks4_some, oNone_at, oSome_at, kSome_int, slO_str, sSeq_at, kSeq_nx, kSeq_rt, kSeq_bk, kSeq_ct, sNext_at, sBreak_at, sCont_at, sRetN_at, sRet_at, kRet_some, sExpr_at, kExpr_some, sSet_at, kSet_some, sIf_at, kIf_true, kIf_false, sPar2_k, kPar2_some, sPar3_k, kPar3_some, sAsg_at, kAsg_some, kAsg2_some, mName_at, mTup_2, mTup_3, mCons_at, kmCons_some, mNil_at, sPut_at, kp1_some, kp2_some, kp3_some, kp4_some, kFn_rt, kFn_nx, mkFn_0, mkFn_1, mkFn_2, mkFn_3, mkFn_4, mkFn_5, sWhile_at, List.getElem?_cons_zero, List.getElem?_cons_succ, List.set_cons_zero, List.set_cons_succ, List.replicate_succ, List.replicate_zero, Nat.reduceSub, Bool.not_true, Bool.not_false, ite_true, ite_false, if_true, if_false, reduceCtorEq, fldM_at, sFldM_at, kSF1_some, kSF2_some, kSF3_some, sFldAddM_at, kSA1_some, kSA2_int, eMake_at, kMk1_some, kMk2_some, isCM_at, isCO_non, eGet1_at, kG12_some, kG13_some, eGet2_at, kG22_some, kG23_some, eCallD_at, kCallD_some, eKdx_at, kKdx_some, kIsB_at, kEqE_at, kNeE_at, kInN_at, minF_at, dictF_at, atI0, atI1, eq_str, ixO_tup, lenO_tup, mTup_2, List.cons.injEq, Nat.reduceEqDiff, decide_false, decide_true, and_false, and_true, false_and, true_and, Bool.or_false, Bool.or_true, Bool.true_or, Bool.false_or, Bool.and_true, Bool.and_false, Bool.false_and, Bool.true_and, eReprC_at, kRep2_some, kRep3_some, Int.reduceLE, Int.reduceLT, iss, j, e1, is1, isa_lst, sh1, sh2, isl, a1, a2]
  · exact fun i x hi e => by
      have il : i < st.length := (List.getElem?_eq_some_iff.mp e).1
      rw [List.getElem?_set_ne (by omega)]
      exact get_grow (o1 i x hi e)
end Math

set_option maxRecDepth 100000
set_option maxHeartbeats 4000000
namespace Math
open MP Text PySem
theorem loopC_GM {α : Type} {chk : Sto → Prop} {m : MG} {t : MT} {f : ME} {ρ0 : Rho} {st : Sto} {g : α → D} {b : α → Bool} {Q : α → D → Sto → Prop} (mono : ∀ d v s s', Q d v s → Only [st.length] s s' → Q d v s') (hk : ∀ acc x, chk (st ++ .lst acc :: x)) : ∀ (l : List α) (acc : List D) (x : Sto),
    (∀ d ∈ l, ∀ acc x, ∃ ρ1 y, m (g d) ρ0 = some ρ1 ∧ t ρ1 (st ++ .lst acc :: x) = some (b d, st ++ .lst acc :: (x ++ y)) ∧
      (b d = true → ∃ v z, f ρ1 (st ++ .lst acc :: (x ++ y)) = some (v, st ++ .lst acc :: (x ++ y ++ z)) ∧ Q d v (st ++ .lst acc :: (x ++ y ++ z)))) →
    acc.length + l.length ≤ LIM → ∃ vs y, loopC chk m t f ρ0 st.length (l.map g) (st ++ .lst acc :: x) = some (st ++ .lst (acc ++ vs) :: (x ++ y)) ∧ Paired (fun d v => Q d v (st ++ .lst (acc ++ vs) :: (x ++ y))) (l.filter b) vs
  | [], acc, x, _, _ => ⟨[], [], by
    rw [List.map_nil]
    unfold loopC
    rw [if_pos (hk acc x)]
    simp, .nil⟩
  | d :: r, acc, x, h, hl => by
    rw [List.length_cons] at hl
    obtain ⟨ρ1, y, e1, e2, h3⟩ := h d (.head _) acc x
    have hr := fun d' hd => h d' (List.mem_cons_of_mem _ hd)
    rw [List.map_cons]
    unfold loopC
    rw [if_pos (hk acc x), e1, Option.bind_some, e2, Option.bind_some]
    cases hb : b d with
    | false =>
      obtain ⟨vs, z, e3, p⟩ := loopC_GM mono hk r acc (x ++ y) hr (by omega)
      refine ⟨vs, y ++ z, ?_, ?_⟩
      · simp only [Bool.false_eq_true, if_false]
        rw [e3, List.append_assoc]
      · rw [List.filter_cons_of_neg (by rw [hb]; exact Bool.false_ne_true)]
        rw [List.append_assoc] at p
        exact p
    | true =>
      obtain ⟨v, z, e3, hq⟩ := h3 hb
      obtain ⟨vs, u, e4, p⟩ := loopC_GM mono hk r (acc ++ [v]) (x ++ y ++ z) hr (by rw [List.length_append, List.length_singleton]; omega)
      have ea : acc ++ [v] ++ vs = acc ++ v :: vs := by simp
      have eg : x ++ y ++ z ++ u = x ++ (y ++ z ++ u) := by simp
      rw [ea, eg] at e4 p
      refine ⟨v :: vs, y ++ z ++ u, ?_, ?_⟩
      · simp only [if_true]
        rw [e3, Option.bind_some]
        simp only [myL_end]
        rw [if_pos (by omega), set_end, e4]
      · rw [List.filter_cons_of_pos hb]
        refine .cons (mono _ _ _ _ hq fun n o hn hg => ?_) p
        have hne : st.length ≠ n := fun e => hn (by rw [e]; exact .head _)
        rw [← eg]
        have e5 : st ++ .lst (acc ++ v :: vs) :: (x ++ y ++ z ++ u) = (st ++ .lst acc :: (x ++ y ++ z)).set st.length (.lst (acc ++ v :: vs)) ++ u := by
          rw [set_end]
          simp
        rw [e5]
        refine get_grow ?_
        rw [List.getElem?_set_ne hne]
        exact hg
theorem eLc_GM {α : Type} {chk : Sto → Prop} {fi : MI} {m : MG} {t : MT} {f : ME} {vs0 : List Nat} {ρ : Rho} {st0 st : Sto} {l : List α} {g : α → D} {b : α → Bool} {Q : α → D → Sto → Prop} (hi : fi ρ st0 = some ((l.map g, chk), st)) (mono : ∀ d v s s', Q d v s → Only [st.length] s s' → Q d v s') (hk : ∀ acc x, chk (st ++ .lst acc :: x))
    (h : ∀ d ∈ l, ∀ acc x, ∃ ρ1 y, m (g d) (wipeD ρ vs0) = some ρ1 ∧ t ρ1 (st ++ .lst acc :: x) = some (b d, st ++ .lst acc :: (x ++ y)) ∧
      (b d = true → ∃ v z, f ρ1 (st ++ .lst acc :: (x ++ y)) = some (v, st ++ .lst acc :: (x ++ y ++ z)) ∧ Q d v (st ++ .lst acc :: (x ++ y ++ z))))
    (hl : l.length ≤ LIM) : ∃ vs x, eLc vs0 fi m t f ρ st0 = some (.ref st.length, st ++ .lst vs :: x) ∧ Paired (fun d v => Q d v (st ++ .lst vs :: x)) (l.filter b) vs := by
  obtain ⟨vs, x, e, p⟩ := loopC_GM mono hk l [] [] h (by simpa using hl)
  refine ⟨vs, x, ?_, by simpa using p⟩
  unfold eLc
  rw [hi, Option.bind_some]
  show Option.map _ (loopC chk m t f (wipeD ρ vs0) st.length (l.map g) (st ++ [.lst []])) = _
  rw [e]
  rfl

theorem cell_at {st : Sto} {j k : Nat} {ns : List Int} (h : rdL st j = some (ns.map D.int)) : ∃ n, F_l_cell_at [.ref j, .int (k : Nat)] st = some (.int n, st) := by
  by_cases hk : k < ns.length
  · refine ⟨ns[k], ?_⟩
    have e : ixO (.ref j) (.int (k : Nat)) st = some (.int ns[k]) := by
      rw [ixO_lst h]
      exact L2.atI_nat (by simp [hk])
    have c : (k : Int) < (ns.length : Int) := by omega
    simp only [F_l_cell_at, b_l_cell_at, eVar_at, kVar_some, eC_at, eBin_at, k2_some, k3_some, eUn_at, k1_some, kVal_some, kBl_some, kEq_at, kBlN_some, kNe_at, kIn_at, kNotIn_at, kIx_at, ixO_tup, kLt_int, kLe_int, kGt_int, kGe_int, kLt_str, kLe_str, kGt_str, kGe_str, kIs_non, kIs_bl, kIs_int, kIs_str, kIs_tup, kIs_ref, kIsNot_non, kIsNot_bl, kIsNot_int, kIsNot_str, kIsNot_tup, kIsNot_ref, opAdd_int, opAdd_str, opSub_int, opMul_int, opDiv_int, opMod_int, opPow_int, opAnd_int, opOr_int, opNeg_int, eChain_at, kc1_some, kc2_some, kc3_true, kc3_false, kc4_some, tOf_at, kTru_some, kTru2_some, truD_non, truD_bl, truD_int, truD_tup, tAnd_at, kAnd_true, kAnd_false, tOr_at, kOr_true, kOr_false, tNot_at, kNot_some, tYes_at, eAnd_at, keAnd_some, keAnd2_true, keAnd2_false, eOr_at, keOr_some, keOr2_true, keOr2_false, eNot_at, keNot_some, keNot2_some, eIf_at, keIf_true, keIf_false, aNil_at, aCons_at, ka1_some, ka2_some, eTup_at, kTup_0, kTup_1, kTup_2, kTup_3, kTup_4, kTup_5, kTup_6, eLst_at, kLst_0, kLst_1, kLst_2, kLst_3, kLst_4, eDic0_at, eCall_at, kCall_some, o1_at, isiO_at, kIsi_some, tyD_non, tyD_bl, tyD_int, tyD_str, tyD_tup, eBM_at, kbm1_some, kbm2_some, eSl_at, ks2_some, ks3_some, ks4_some, oNone_at, oSome_at, kSome_int, slO_str, sSeq_at, kSeq_nx, kSeq_rt, kSeq_bk, kSeq_ct, sNext_at, sBreak_at, sCont_at, sRetN_at, sRet_at, kRet_some, sExpr_at, kExpr_some, sSet_at, kSet_some, sIf_at, kIf_true, kIf_false, sPar2_k, kPar2_some, sPar3_k, kPar3_some, sAsg_at, kAsg_some, kAsg2_some, mName_at, mTup_2, mTup_3, mCons_at, kmCons_some, mNil_at, sPut_at, kp1_some, kp2_some, kp3_some, kp4_some, kFn_rt, kFn_nx, mkFn_0, mkFn_1, mkFn_2, mkFn_3, mkFn_4, mkFn_5, sWhile_at, List.getElem?_cons_zero, List.getElem?_cons_succ, List.set_cons_zero, List.set_cons_succ, List.replicate_succ, List.replicate_zero, Nat.reduceSub, Bool.not_true, Bool.not_false, ite_true, ite_false, if_true, if_false, reduceCtorEq, lenO_lst h, List.length_map, e, c, decide_true]
  · refine ⟨0, ?_⟩
    have c : ¬ (k : Int) < (ns.length : Int) := by omega
    simp only [F_l_cell_at, b_l_cell_at, eVar_at, kVar_some, eC_at, eBin_at, k2_some, k3_some, eUn_at, k1_some, kVal_some, kBl_some, kEq_at, kBlN_some, kNe_at, kIn_at, kNotIn_at, kIx_at, ixO_tup, kLt_int, kLe_int, kGt_int, kGe_int, kLt_str, kLe_str, kGt_str, kGe_str, kIs_non, kIs_bl, kIs_int, kIs_str, kIs_tup, kIs_ref, kIsNot_non, kIsNot_bl, kIsNot_int, kIsNot_str, kIsNot_tup, kIsNot_ref, opAdd_int, opAdd_str, opSub_int, opMul_int, opDiv_int, opMod_int, opPow_int, opAnd_int, opOr_int, opNeg_int, eChain_at, kc1_some, kc2_some, kc3_true, kc3_false, kc4_some, tOf_at, kTru_some, kTru2_some, truD_non, truD_bl, truD_int, truD_tup, tAnd_at, kAnd_true, kAnd_false, tOr_at, kOr_true, kOr_false, tNot_at, kNot_some, tYes_at, eAnd_at, keAnd_some, keAnd2_true, keAnd2_false, eOr_at, keOr_some, keOr2_true, keOr2_false, eNot_at, keNot_some, keNot2_some, eIf_at, keIf_true, keIf_false, aNil_at, aCons_at, ka1_some, ka2_some, eTup_at, kTup_0, kTup_1, kTup_2, kTup_3, kTup_4, kTup_5, kTup_6, eLst_at, kLst_0, kLst_1, kLst_2, kLst_3, kLst_4, eDic0_at, eCall_at, kCall_some, o1_at, isiO_at, kIsi_some, tyD_non, tyD_bl, tyD_int, tyD_str, tyD_tup, eBM_at, kbm1_some, kbm2_some, eSl_at, ks2_some, ks3_some, ks4_some, oNone_at, oSome_at, kSome_int, slO_str, sSeq_at, kSeq_nx, kSeq_rt, kSeq_bk, kSeq_ct, sNext_at, sBreak_at, sCont_at, sRetN_at, sRet_at, kRet_some, sExpr_at, kExpr_some, sSet_at, kSet_some, sIf_at, kIf_true, kIf_false, sPar2_k, kPar2_some, sPar3_k, kPar3_some, sAsg_at, kAsg_some, kAsg2_some, mName_at, mTup_2, mTup_3, mCons_at, kmCons_some, mNil_at, sPut_at, kp1_some, kp2_some, kp3_some, kp4_some, kFn_rt, kFn_nx, mkFn_0, mkFn_1, mkFn_2, mkFn_3, mkFn_4, mkFn_5, sWhile_at, List.getElem?_cons_zero, List.getElem?_cons_succ, List.set_cons_zero, List.set_cons_succ, List.replicate_succ, List.replicate_zero, Nat.reduceSub, Bool.not_true, Bool.not_false, ite_true, ite_false, if_true, if_false, reduceCtorEq, lenO_lst h, List.length_map, c, decide_false]
theorem mixed (c : Int) {k : Nat} (hk : k ≤ 100) (st : Sto) : ∃ r : Int, F_l_mixed [.int c, .int (k : Nat)] st = some (.int r, st) ∧ 0 ≤ r ∧ r ≤ 306783375 := by
  have m1 : cMul (31 * (k : Int)) (k : Int) = true := decide_eq_true (.inr (.inl (by omega)))
  have m2 : ∀ z : Int, cMul z (16807 + 7919 * (k : Int)) = true := fun z => decide_eq_true (.inr (.inl (by omega)))
  refine ⟨(c % 1000000007 + 31 * (k : Int) * (k : Int) + 7) * 48271 % 2147483647 * (16807 + 7919 * (k : Int)) % 2147483629 / 7, ?_, ?_, ?_⟩
  · simp only [F_l_mixed, b_l_mixed, eVar_at, kVar_some, eC_at, eBin_at, k2_some, k3_some, eUn_at, k1_some, kVal_some, kBl_some, kEq_at, kBlN_some, kNe_at, kIn_at, kNotIn_at, kIx_at, ixO_tup, kLt_int, kLe_int, kGt_int, kGe_int, kLt_str, kLe_str, kGt_str, kGe_str, kIs_non, kIs_bl, kIs_int, kIs_str, kIs_tup, kIs_ref, kIsNot_non, kIsNot_bl, kIsNot_int, kIsNot_str, kIsNot_tup, kIsNot_ref, opAdd_int, opAdd_str, opSub_int, opMul_int, opDiv_int, opMod_int, opPow_int, opAnd_int, opOr_int, opNeg_int, eChain_at, kc1_some, kc2_some, kc3_true, kc3_false, kc4_some, tOf_at, kTru_some, kTru2_some, truD_non, truD_bl, truD_int, truD_tup, tAnd_at, kAnd_true, kAnd_false, tOr_at, kOr_true, kOr_false, tNot_at, kNot_some, tYes_at, eAnd_at, keAnd_some, keAnd2_true, keAnd2_false, eOr_at, keOr_some, keOr2_true, keOr2_false, eNot_at, keNot_some, keNot2_some, eIf_at, keIf_true, keIf_false, aNil_at, aCons_at, ka1_some, ka2_some, eTup_at, kTup_0, kTup_1, kTup_2, kTup_3, kTup_4, kTup_5, kTup_6, eLst_at, kLst_0, kLst_1, kLst_2, kLst_3, kLst_4, eDic0_at, eCall_at, kCall_some, o1_at, isiO_at, kIsi_some, tyD_non, tyD_bl, tyD_int, tyD_str, tyD_tup, eBM_at, kbm1_some, kbm2_some, eSl_at, ks2_some, ks3_some, ks4_some, oNone_at, oSome_at, kSome_int, slO_str, sSeq_at, kSeq_nx, kSeq_rt, kSeq_bk, kSeq_ct, sNext_at, sBreak_at, sCont_at, sRetN_at, sRet_at, kRet_some, sExpr_at, kExpr_some, sSet_at, kSet_some, sIf_at, kIf_true, kIf_false, sPar2_k, kPar2_some, sPar3_k, kPar3_some, sAsg_at, kAsg_some, kAsg2_some, mName_at, mTup_2, mTup_3, mCons_at, kmCons_some, mNil_at, sPut_at, kp1_some, kp2_some, kp3_some, kp4_some, kFn_rt, kFn_nx, mkFn_0, mkFn_1, mkFn_2, mkFn_3, mkFn_4, mkFn_5, sWhile_at, List.getElem?_cons_zero, List.getElem?_cons_succ, List.set_cons_zero, List.set_cons_succ, List.replicate_succ, List.replicate_zero, Nat.reduceSub, Bool.not_true, Bool.not_false, ite_true, ite_false, if_true, if_false, reduceCtorEq, cDv_2, cMd_2, gDv_2, gMd_2, cMr_2, cMl_2, cDv_3, cMd_3, gDv_3, gMd_3, cMr_3, cMl_3, cDv_4, cMd_4, gDv_4, gMd_4, cMr_4, cMl_4, cDv_5, cMd_5, gDv_5, gMd_5, cMr_5, cMl_5, cDv_6, cMd_6, gDv_6, gMd_6, cMr_6, cMl_6, cDv_7, cMd_7, gDv_7, gMd_7, cMr_7, cMl_7, cDv_8, cMd_8, gDv_8, gMd_8, cMr_8, cMl_8, cDv_12, cMd_12, gDv_12, gMd_12, cMr_12, cMl_12, cDv_15, cMd_15, gDv_15, gMd_15, cMr_15, cMl_15, cDv_30, cMd_30, gDv_30, gMd_30, cMr_30, cMl_30, cDv_31, cMd_31, gDv_31, gMd_31, cMr_31, cMl_31, cDv_40, cMd_40, gDv_40, gMd_40, cMr_40, cMl_40, cDv_57, cMd_57, gDv_57, gMd_57, cMr_57, cMl_57, cDv_60, cMd_60, gDv_60, gMd_60, cMr_60, cMl_60, cDv_94, cMd_94, gDv_94, gMd_94, cMr_94, cMl_94, cDv_240, cMd_240, gDv_240, gMd_240, cMr_240, cMl_240, cDv_7919, cMd_7919, gDv_7919, gMd_7919, cMr_7919, cMl_7919, cDv_16807, cMd_16807, gDv_16807, gMd_16807, cMr_16807, cMl_16807, cDv_48271, cMd_48271, gDv_48271, gMd_48271, cMr_48271, cMl_48271, cDv_1000000007, cMd_1000000007, gDv_1000000007, gMd_1000000007, cMr_1000000007, cMl_1000000007, cDv_2147483629, cMd_2147483629, gDv_2147483629, gMd_2147483629, cMr_2147483629, cMl_2147483629, cDv_2147483647, cMd_2147483647, gDv_2147483647, gMd_2147483647, cMr_2147483647, cMl_2147483647, m1, m2]
  · exact Int.ediv_nonneg (Int.emod_nonneg _ (by decide)) (by decide)
  · have := Int.emod_lt_of_pos ((c % 1000000007 + 31 * (k : Int) * (k : Int) + 7) * 48271 % 2147483647 * (16807 + 7919 * (k : Int))) (show (0 : Int) < 2147483629 by decide)
    generalize (c % 1000000007 + 31 * (k : Int) * (k : Int) + 7) * 48271 % 2147483647 * (16807 + 7919 * (k : Int)) % 2147483629 = z at this ⊢
    omega
theorem add_tl {x y : List Nat} (hx : x.length ≤ 1000) (hy : y.length ≤ 1000) (st : Sto) : opAdd (.str x) (.str y) st = some (.str (x ++ y), st) := by
  show (if _ then _ else _) = _
  rw [if_pos (by unfold LIM; omega)]
def SG : List Nat := [32, 33, 34, 35, 36, 38, 39, 40, 41, 42, 43, 44, 45, 46, 47, 48, 49, 50, 51, 52, 53, 54, 55, 56, 57, 58, 59, 60, 61, 62, 63, 64, 65, 66, 67, 68, 69, 70, 71, 72, 73, 74, 75, 76, 77, 78, 79, 80, 81, 82, 83, 84, 85, 86, 87, 88, 89, 90, 91, 92, 93, 94, 95, 96, 97, 98, 99, 100, 101, 102, 103, 104, 105, 106, 107, 108, 109, 110, 111, 112, 113, 114, 115, 116, 117, 118, 119, 120, 121, 122, 123, 124, 125, 126]
theorem signs_is (st : Sto) : F_l_signs [] st = some (.str SG, st) := by
  have a : opAdd (.str [32, 33, 34, 35, 36, 38, 39, 40, 41, 42, 43, 44, 45, 46, 47, 48, 49, 50, 51, 52, 53, 54, 55, 56, 57, 58, 59, 60, 61, 62, 63, 64, 65, 66, 67, 68, 69, 70, 71, 72, 73, 74, 75, 76, 77, 78, 79, 80, 81, 82, 83, 84, 85, 86, 87, 88, 89, 90, 91, 92, 93, 94, 95, 96]) (.str [97, 98, 99, 100, 101, 102, 103, 104, 105, 106, 107, 108, 109, 110, 111, 112, 113, 114, 115, 116, 117, 118, 119, 120, 121, 122, 123, 124, 125, 126]) st = some (.str SG, st) := by
    exact add_tl (by decide) (by decide) st
  simp only [F_l_signs, b_l_signs, -opAdd_str, eVar_at, kVar_some, eC_at, eBin_at, k2_some, k3_some, eUn_at, k1_some, kVal_some, kBl_some, kEq_at, kBlN_some, kNe_at, kIn_at, kNotIn_at, kIx_at, ixO_tup, kLt_int, kLe_int, kGt_int, kGe_int, kLt_str, kLe_str, kGt_str, kGe_str, kIs_non, kIs_bl, kIs_int, kIs_str, kIs_tup, kIs_ref, kIsNot_non, kIsNot_bl, kIsNot_int, kIsNot_str, kIsNot_tup, kIsNot_ref, opAdd_int, opAdd_str, opSub_int, opMul_int, opDiv_int, opMod_int, opPow_int, opAnd_int, opOr_int, opNeg_int, eChain_at, kc1_some, kc2_some, kc3_true, kc3_false, kc4_some, tOf_at, kTru_some, kTru2_some, truD_non, truD_bl, truD_int, truD_tup, tAnd_at, kAnd_true, kAnd_false, tOr_at, kOr_true, kOr_false, tNot_at, kNot_some, tYes_at, eAnd_at, keAnd_some, keAnd2_true, keAnd2_false, eOr_at, keOr_some, keOr2_true, keOr2_false, eNot_at, keNot_some, keNot2_some, eIf_at, keIf_true, keIf_false, aNil_at, aCons_at, ka1_some, ka2_some, eTup_at, kTup_0, kTup_1, kTup_2, kTup_3, kTup_4, kTup_5, kTup_6, eLst_at, kLst_0, kLst_1, kLst_2, kLst_3, kLst_4, eDic0_at, eCall_at, kCall_some, o1_at, isiO_at, kIsi_some, tyD_non, tyD_bl, tyD_int, tyD_str, tyD_tup, eBM_at, kbm1_some, kbm2_some, eSl_at, ks2_some, ks3_some, ks4_some, oNone_at, oSome_at, kSome_int, slO_str, sSeq_at, kSeq_nx, kSeq_rt, kSeq_bk, kSeq_ct, sNext_at, sBreak_at, sCont_at, sRetN_at, sRet_at, kRet_some, sExpr_at, kExpr_some, sSet_at, kSet_some, sIf_at, kIf_true, kIf_false, sPar2_k, kPar2_some, sPar3_k, kPar3_some, sAsg_at, kAsg_some, kAsg2_some, mName_at, mTup_2, mTup_3, mCons_at, kmCons_some, mNil_at, sPut_at, kp1_some, kp2_some, kp3_some, kp4_some, kFn_rt, kFn_nx, mkFn_0, mkFn_1, mkFn_2, mkFn_3, mkFn_4, mkFn_5, sWhile_at, List.getElem?_cons_zero, List.getElem?_cons_succ, List.set_cons_zero, List.set_cons_succ, List.replicate_succ, List.replicate_zero, Nat.reduceSub, Bool.not_true, Bool.not_false, ite_true, ite_false, if_true, if_false, reduceCtorEq, a]
theorem sg_fine : ∀ c ∈ SG, 32 ≤ c ∧ c < 128 := by decide
theorem kLst6 {a b c d e f : D} {st : Sto} : kLst (some ([a, b, c, d, e, f], st)) = some (.ref st.length, st ++ [.lst [a, b, c, d, e, f]]) := rfl
theorem kLst8 {a b c d e f g h : D} {st : Sto} : kLst (some ([a, b, c, d, e, f, g, h], st)) = some (.ref st.length, st ++ [.lst [a, b, c, d, e, f, g, h]]) := rfl
def Tl (l : List Nat) : Prop := l.length ≤ 19 ∧ ∀ c ∈ l, 32 ≤ c ∧ c < 128
theorem mul32 (b : Int) (h0 : 0 ≤ b) (h1 : b ≤ 56) (st : Sto) : opMul (.str [32]) (.int b) st = some (.str (List.replicate b.toNat 32), st) := by
  show (if _ then _ else _) = _
  rw [if_pos (by
    have : ([32] : List Nat).length = 1 := rfl
    rw [this]
    unfold LIM
    omega)]
  have : repS [32] b = List.replicate b.toNat 32 := by
    unfold repS
    generalize b.toNat = n
    induction n with
    | zero => rfl
    | succ n ih => rw [List.replicate_succ, List.flatten_cons, ih]; rfl
  rw [this]
theorem row_mk {b : Int} (h0 : 0 ≤ b) (h1 : b ≤ 56) {l : List Nat} (h : Tl l) : Row (List.replicate b.toNat 32 ++ l) := by
  refine ⟨?_, fun c hc => ?_, fun hc => ?_⟩
  · rw [List.length_append, List.length_replicate]
    have := h.1
    omega
  · rcases List.mem_append.mp hc with hc | hc
    · rw [List.eq_of_mem_replicate hc]
      decide
    · exact (h.2 c hc).2
  · rcases List.mem_append.mp hc with hc | hc
    · have := List.eq_of_mem_replicate hc
      omega
    · have := (h.2 10 hc).1
      omega
theorem if8 (c : Int) (A : MS) (x0 x1 x3 x4 : Option D) (m : Int) (st : Sto) : sIf (tOf (eBin kEq (eBin opMod (eVar 2) (eC (.int 8))) (eC (.int c)))) A sNext [x0, x1, some (.int m), x3, x4] st = if m % 8 = c then A [x0, x1, some (.int m), x3, x4] st else some (.nx, [x0, x1, some (.int m), x3, x4], st) := by
  have e := eqO_int st (m % 8) c
  by_cases h : m % 8 = c
  · rw [if_pos h]
    rw [h] at e
    simp only [beq_self_eq_true] at e
    simp only [eVar_at, kVar_some, eC_at, eBin_at, k2_some, k3_some, eUn_at, k1_some, kVal_some, kBl_some, kEq_at, kBlN_some, kNe_at, kIn_at, kNotIn_at, kIx_at, ixO_tup, kLt_int, kLe_int, kGt_int, kGe_int, kLt_str, kLe_str, kGt_str, kGe_str, kIs_non, kIs_bl, kIs_int, kIs_str, kIs_tup, kIs_ref, kIsNot_non, kIsNot_bl, kIsNot_int, kIsNot_str, kIsNot_tup, kIsNot_ref, opAdd_int, opAdd_str, opSub_int, opMul_int, opDiv_int, opMod_int, opPow_int, opAnd_int, opOr_int, opNeg_int, eChain_at, kc1_some, kc2_some, kc3_true, kc3_false, kc4_some, tOf_at, kTru_some, kTru2_some, truD_non, truD_bl, truD_int, truD_tup, tAnd_at, kAnd_true, kAnd_false, tOr_at, kOr_true, kOr_false, tNot_at, kNot_some, tYes_at, eAnd_at, keAnd_some, keAnd2_true, keAnd2_false, eOr_at, keOr_some, keOr2_true, keOr2_false, eNot_at, keNot_some, keNot2_some, eIf_at, keIf_true, keIf_false, aNil_at, aCons_at, ka1_some, ka2_some, eTup_at, kTup_0, kTup_1, kTup_2, kTup_3, kTup_4, kTup_5, kTup_6, eLst_at, kLst_0, kLst_1, kLst_2, kLst_3, kLst_4, eDic0_at, eCall_at, kCall_some, o1_at, isiO_at, kIsi_some, tyD_non, tyD_bl, tyD_int, tyD_str, tyD_tup, eBM_at, kbm1_some, kbm2_some, eSl_at, ks2_some, ks3_some, ks4_some, oNone_at, oSome_at, kSome_int, slO_str, sSeq_at, kSeq_nx, kSeq_rt, kSeq_bk, kSeq_ct, sNext_at, sBreak_at, sCont_at, sRetN_at, sRet_at, kRet_some, sExpr_at, kExpr_some, sSet_at, kSet_some, sIf_at, kIf_true, kIf_false, sPar2_k, kPar2_some, sPar3_k, kPar3_some, sAsg_at, kAsg_some, kAsg2_some, mName_at, mTup_2, mTup_3, mCons_at, kmCons_some, mNil_at, sPut_at, kp1_some, kp2_some, kp3_some, kp4_some, kFn_rt, kFn_nx, mkFn_0, mkFn_1, mkFn_2, mkFn_3, mkFn_4, mkFn_5, sWhile_at, List.getElem?_cons_zero, List.getElem?_cons_succ, List.set_cons_zero, List.set_cons_succ, List.replicate_succ, List.replicate_zero, Nat.reduceSub, Bool.not_true, Bool.not_false, ite_true, ite_false, if_true, if_false, reduceCtorEq, cDv_2, cMd_2, gDv_2, gMd_2, cMr_2, cMl_2, cDv_3, cMd_3, gDv_3, gMd_3, cMr_3, cMl_3, cDv_4, cMd_4, gDv_4, gMd_4, cMr_4, cMl_4, cDv_5, cMd_5, gDv_5, gMd_5, cMr_5, cMl_5, cDv_6, cMd_6, gDv_6, gMd_6, cMr_6, cMl_6, cDv_7, cMd_7, gDv_7, gMd_7, cMr_7, cMl_7, cDv_8, cMd_8, gDv_8, gMd_8, cMr_8, cMl_8, cDv_12, cMd_12, gDv_12, gMd_12, cMr_12, cMl_12, cDv_15, cMd_15, gDv_15, gMd_15, cMr_15, cMl_15, cDv_30, cMd_30, gDv_30, gMd_30, cMr_30, cMl_30, cDv_31, cMd_31, gDv_31, gMd_31, cMr_31, cMl_31, cDv_40, cMd_40, gDv_40, gMd_40, cMr_40, cMl_40, cDv_57, cMd_57, gDv_57, gMd_57, cMr_57, cMl_57, cDv_60, cMd_60, gDv_60, gMd_60, cMr_60, cMl_60, cDv_94, cMd_94, gDv_94, gMd_94, cMr_94, cMl_94, cDv_240, cMd_240, gDv_240, gMd_240, cMr_240, cMl_240, cDv_7919, cMd_7919, gDv_7919, gMd_7919, cMr_7919, cMl_7919, cDv_16807, cMd_16807, gDv_16807, gMd_16807, cMr_16807, cMl_16807, cDv_48271, cMd_48271, gDv_48271, gMd_48271, cMr_48271, cMl_48271, cDv_1000000007, cMd_1000000007, gDv_1000000007, gMd_1000000007, cMr_1000000007, cMl_1000000007, cDv_2147483629, cMd_2147483629, gDv_2147483629, gMd_2147483629, cMr_2147483629, cMl_2147483629, cDv_2147483647, cMd_2147483647, gDv_2147483647, gMd_2147483647, cMr_2147483647, cMl_2147483647, h, e]
  · rw [if_neg h]
    have : (m % 8 == c) = false := by simpa using h
    rw [this] at e
    simp only [eVar_at, kVar_some, eC_at, eBin_at, k2_some, k3_some, eUn_at, k1_some, kVal_some, kBl_some, kEq_at, kBlN_some, kNe_at, kIn_at, kNotIn_at, kIx_at, ixO_tup, kLt_int, kLe_int, kGt_int, kGe_int, kLt_str, kLe_str, kGt_str, kGe_str, kIs_non, kIs_bl, kIs_int, kIs_str, kIs_tup, kIs_ref, kIsNot_non, kIsNot_bl, kIsNot_int, kIsNot_str, kIsNot_tup, kIsNot_ref, opAdd_int, opAdd_str, opSub_int, opMul_int, opDiv_int, opMod_int, opPow_int, opAnd_int, opOr_int, opNeg_int, eChain_at, kc1_some, kc2_some, kc3_true, kc3_false, kc4_some, tOf_at, kTru_some, kTru2_some, truD_non, truD_bl, truD_int, truD_tup, tAnd_at, kAnd_true, kAnd_false, tOr_at, kOr_true, kOr_false, tNot_at, kNot_some, tYes_at, eAnd_at, keAnd_some, keAnd2_true, keAnd2_false, eOr_at, keOr_some, keOr2_true, keOr2_false, eNot_at, keNot_some, keNot2_some, eIf_at, keIf_true, keIf_false, aNil_at, aCons_at, ka1_some, ka2_some, eTup_at, kTup_0, kTup_1, kTup_2, kTup_3, kTup_4, kTup_5, kTup_6, eLst_at, kLst_0, kLst_1, kLst_2, kLst_3, kLst_4, eDic0_at, eCall_at, kCall_some, o1_at, isiO_at, kIsi_some, tyD_non, tyD_bl, tyD_int, tyD_str, tyD_tup, eBM_at, kbm1_some, kbm2_some, eSl_at, ks2_some, ks3_some, ks4_some, oNone_at, oSome_at, kSome_int, slO_str, sSeq_at, kSeq_nx, kSeq_rt, kSeq_bk, kSeq_ct, sNext_at, sBreak_at, sCont_at, sRetN_at, sRet_at, kRet_some, sExpr_at, kExpr_some, sSet_at, kSet_some, sIf_at, kIf_true, kIf_false, sPar2_k, kPar2_some, sPar3_k, kPar3_some, sAsg_at, kAsg_some, kAsg2_some, mName_at, mTup_2, mTup_3, mCons_at, kmCons_some, mNil_at, sPut_at, kp1_some, kp2_some, kp3_some, kp4_some, kFn_rt, kFn_nx, mkFn_0, mkFn_1, mkFn_2, mkFn_3, mkFn_4, mkFn_5, sWhile_at, List.getElem?_cons_zero, List.getElem?_cons_succ, List.set_cons_zero, List.set_cons_succ, List.replicate_succ, List.replicate_zero, Nat.reduceSub, Bool.not_true, Bool.not_false, ite_true, ite_false, if_true, if_false, reduceCtorEq, cDv_2, cMd_2, gDv_2, gMd_2, cMr_2, cMl_2, cDv_3, cMd_3, gDv_3, gMd_3, cMr_3, cMl_3, cDv_4, cMd_4, gDv_4, gMd_4, cMr_4, cMl_4, cDv_5, cMd_5, gDv_5, gMd_5, cMr_5, cMl_5, cDv_6, cMd_6, gDv_6, gMd_6, cMr_6, cMl_6, cDv_7, cMd_7, gDv_7, gMd_7, cMr_7, cMl_7, cDv_8, cMd_8, gDv_8, gMd_8, cMr_8, cMl_8, cDv_12, cMd_12, gDv_12, gMd_12, cMr_12, cMl_12, cDv_15, cMd_15, gDv_15, gMd_15, cMr_15, cMl_15, cDv_30, cMd_30, gDv_30, gMd_30, cMr_30, cMl_30, cDv_31, cMd_31, gDv_31, gMd_31, cMr_31, cMl_31, cDv_40, cMd_40, gDv_40, gMd_40, cMr_40, cMl_40, cDv_57, cMd_57, gDv_57, gMd_57, cMr_57, cMl_57, cDv_60, cMd_60, gDv_60, gMd_60, cMr_60, cMl_60, cDv_94, cMd_94, gDv_94, gMd_94, cMr_94, cMl_94, cDv_240, cMd_240, gDv_240, gMd_240, cMr_240, cMl_240, cDv_7919, cMd_7919, gDv_7919, gMd_7919, cMr_7919, cMl_7919, cDv_16807, cMd_16807, gDv_16807, gMd_16807, cMr_16807, cMl_16807, cDv_48271, cMd_48271, gDv_48271, gMd_48271, cMr_48271, cMl_48271, cDv_1000000007, cMd_1000000007, gDv_1000000007, gMd_1000000007, cMr_1000000007, cMl_1000000007, cDv_2147483629, cMd_2147483629, gDv_2147483629, gMd_2147483629, cMr_2147483629, cMl_2147483629, cDv_2147483647, cMd_2147483647, gDv_2147483647, gMd_2147483647, cMr_2147483647, cMl_2147483647, e]
theorem mem_cut {α : Type} {xs : List α} {lo hi : Option Int} {x : α} (h : x ∈ cutG xs lo hi) : x ∈ xs := List.mem_of_mem_drop (List.mem_of_mem_take h)
noncomputable def T0 : MS := (sSeq (sIf (tOf (eBin kEq (eBin opMod (eVar 2) (eC (.int 8))) (eC (.int 0)))) (sRet (eBin opMul (eC (.str [32])) (eVar 1))) sNext)
    (sSeq (sIf (tOf (eBin kEq (eBin opMod (eVar 2) (eC (.int 8))) (eC (.int 1)))) (sRet (eBin opAdd (eBin opAdd (eBin opMul (eC (.str [32])) (eVar 1)) (eC (.str [35, 32]))) (eSl (eC (.str [97, 98, 34, 35, 49])) oNone (oSome (eBin opMod (eBin opDiv (eVar 2) (eC (.int 8))) (eC (.int 6))))))) sNext)
    (sSeq (sIf (tOf (eBin kEq (eBin opMod (eVar 2) (eC (.int 8))) (eC (.int 2)))) (sRet (eBin opAdd (eBin opAdd (eBin opAdd (eBin opMul (eC (.str [32])) (eVar 1)) (eC (.str [115, 97, 121, 40, 34]))) (eSl (eC (.str [97, 35, 98, 32, 35, 32])) oNone (oSome (eBin opMod (eBin opDiv (eVar 2) (eC (.int 8))) (eC (.int 7)))))) (eC (.str [34, 41, 32, 35, 32, 99])))) sNext)
    (sSeq (sIf (tOf (eBin kEq (eBin opMod (eVar 2) (eC (.int 8))) (eC (.int 3)))) (sRet (eBin opAdd (eBin opMul (eC (.str [32])) (eVar 1)) (eBin kIx (eLst (aCons (eC (.str [36])) (aCons (eC (.str [97, 32, 63])) (aCons (eC (.str [95])) (aCons (eC (.str [48, 49])) (aCons (eC (.str [34, 97])) (aCons (eC (.str [98, 32, 34])) (aCons (eC (.str [33, 32, 97])) (aCons (eC (.str [97, 59])) aNil))))))))) (eBin opMod (eBin opDiv (eVar 2) (eC (.int 8))) (eC (.int 8)))))) sNext)
    (sSeq (sIf (tOf (eBin kEq (eBin opMod (eVar 2) (eC (.int 8))) (eC (.int 4)))) (sRet (eBin opAdd (eBin opMul (eC (.str [32])) (eVar 1)) (eBin kIx (eLst (aCons (eC (.str [105, 102, 32, 97, 58])) (aCons (eC (.str [101, 108, 115, 101, 58])) (aCons (eC (.str [120, 32, 61, 32, 49])) (aCons (eC (.str [112, 97, 115, 115, 35])) (aCons (eC (.str [114, 101, 116, 117, 114, 110])) (aCons (eC (.str [121, 43, 61, 50])) aNil))))))) (eBin opMod (eBin opDiv (eVar 2) (eC (.int 8))) (eC (.int 6)))))) sNext)
    (sSeq (sSet 3 (eBM isS joinM (eC (.str [])) (aCons (eLc [4] (iR1 (aCons (eBin opMod (eBin opDiv (eVar 2) (eC (.int 8))) (eC (.int 6))) aNil)) (mName 4) tYesM eC_l_row_1) aNil)))
    (sRet (eBin opAdd (eBin opMul (eC (.str [32])) (eVar 1)) (eVar 3)))))))))
theorem row_eq : b_l_row = (sSeq (sSet 1 (eBin kIx (eLst (aCons (eBin opMul (eC (.int 4)) (eBin opMod (eVar 0) (eC (.int 4)))) (aCons (eBin opMul (eC (.int 4)) (eBin opMod (eVar 0) (eC (.int 15)))) (aCons (eBin opMod (eVar 0) (eC (.int 57))) (aCons (eC (.int 0)) aNil))))) (eBin opMod (eBin opDiv (eVar 0) (eC (.int 60))) (eC (.int 4)))))
    (sSeq (sSet 2 (eBin opDiv (eVar 0) (eC (.int 240)))) T0)) := rfl
section
variable {b m : Int} (h0 : 0 ≤ b) (h1 : b ≤ 56) (x0 : Option D) (st : Sto)
include h0 h1
theorem rep_len : (List.replicate b.toNat 32).length ≤ 56 := by
  rw [List.length_replicate]
  omega
theorem ret0 : ∃ r g, sRet (eBin opMul (eC (.str [32])) (eVar 1)) [x0, some (.int b), some (.int m), none, none] st = some (.rt (.str r), [x0, some (.int b), some (.int m), none, none], st ++ g) ∧ Row r := by
  have e := mul32 b h0 h1 st
  refine ⟨_, [], ?_, row_mk h0 h1 (l := []) ⟨by decide, fun c hc => by cases hc⟩⟩
  simp only [eVar_at, kVar_some, eC_at, eBin_at, k2_some, k3_some, eUn_at, k1_some, kVal_some, kBl_some, kEq_at, kBlN_some, kNe_at, kIn_at, kNotIn_at, kIx_at, ixO_tup, kLt_int, kLe_int, kGt_int, kGe_int, kLt_str, kLe_str, kGt_str, kGe_str, kIs_non, kIs_bl, kIs_int, kIs_str, kIs_tup, kIs_ref, kIsNot_non, kIsNot_bl, kIsNot_int, kIsNot_str, kIsNot_tup, kIsNot_ref, opAdd_int, opAdd_str, opSub_int, opMul_int, opDiv_int, opMod_int, opPow_int, opAnd_int, opOr_int, opNeg_int, eChain_at, kc1_some, kc2_some, kc3_true, kc3_false, kc4_some, tOf_at, kTru_some, kTru2_some, truD_non, truD_bl, truD_int, truD_tup, tAnd_at, kAnd_true, kAnd_false, tOr_at, kOr_true, kOr_false, tNot_at, kNot_some, tYes_at, eAnd_at, keAnd_some, keAnd2_true, keAnd2_false, eOr_at, keOr_some, keOr2_true, keOr2_false, eNot_at, keNot_some, keNot2_some, eIf_at, keIf_true, keIf_false, aNil_at, aCons_at, ka1_some, ka2_some, eTup_at, kTup_0, kTup_1, kTup_2, kTup_3, kTup_4, kTup_5, kTup_6, eLst_at, kLst_0, kLst_1, kLst_2, kLst_3, kLst_4, eDic0_at, eCall_at, kCall_some, o1_at, isiO_at, kIsi_some, tyD_non, tyD_bl, tyD_int, tyD_str, tyD_tup, eBM_at, kbm1_some, kbm2_some, eSl_at, ks2_some, ks3_some, ks4_some, oNone_at, oSome_at, kSome_int, slO_str, sSeq_at, kSeq_nx, kSeq_rt, kSeq_bk, kSeq_ct, sNext_at, sBreak_at, sCont_at, sRetN_at, sRet_at, kRet_some, sExpr_at, kExpr_some, sSet_at, kSet_some, sIf_at, kIf_true, kIf_false, sPar2_k, kPar2_some, sPar3_k, kPar3_some, sAsg_at, kAsg_some, kAsg2_some, mName_at, mTup_2, mTup_3, mCons_at, kmCons_some, mNil_at, sPut_at, kp1_some, kp2_some, kp3_some, kp4_some, kFn_rt, kFn_nx, mkFn_0, mkFn_1, mkFn_2, mkFn_3, mkFn_4, mkFn_5, sWhile_at, List.getElem?_cons_zero, List.getElem?_cons_succ, List.set_cons_zero, List.set_cons_succ, List.replicate_succ, List.replicate_zero, Nat.reduceSub, Bool.not_true, Bool.not_false, ite_true, ite_false, if_true, if_false, reduceCtorEq, e, List.append_nil]
theorem ret1 : ∃ r g, sRet (eBin opAdd (eBin opAdd (eBin opMul (eC (.str [32])) (eVar 1)) (eC (.str [35, 32]))) (eSl (eC (.str [97, 98, 34, 35, 49])) oNone (oSome (eBin opMod (eBin opDiv (eVar 2) (eC (.int 8))) (eC (.int 6)))))) [x0, some (.int b), some (.int m), none, none] st = some (.rt (.str r), [x0, some (.int b), some (.int m), none, none], st ++ g) ∧ Row r := by
  have e := mul32 b h0 h1 st
  have le := rep_len h0 h1
  have a1 := add_tl (x := List.replicate b.toNat 32) (y := [35, 32]) (by omega) (by decide) st
  have cl := cutG_len [97, 98, 34, 35, 49] none (some (m / 8 % 6))
  have e3 : ([97, 98, 34, 35, 49] : List Nat).length = 5 := rfl
  have e2 : ([35, 32] : List Nat).length = 2 := rfl
  have a2 := add_tl (x := List.replicate b.toNat 32 ++ [35, 32]) (y := cutG [97, 98, 34, 35, 49] none (some (m / 8 % 6))) (by rw [List.length_append, e2]; omega) (by omega) st
  have sl : ([97, 98, 34, 35, 49] : List Nat).length ≤ LIM := by decide
  refine ⟨_, [], ?_, row_mk h0 h1 (l := [35, 32] ++ cutG [97, 98, 34, 35, 49] none (some (m / 8 % 6))) ⟨by rw [List.length_append, e2]; omega, fun c hc => ?_⟩⟩
  · rw [List.append_assoc] at a2
    simp only [eVar_at, kVar_some, eC_at, eBin_at, k2_some, k3_some, eUn_at, k1_some, kVal_some, kBl_some, kEq_at, kBlN_some, kNe_at, kIn_at, kNotIn_at, kIx_at, ixO_tup, kLt_int, kLe_int, kGt_int, kGe_int, kLt_str, kLe_str, kGt_str, kGe_str, kIs_non, kIs_bl, kIs_int, kIs_str, kIs_tup, kIs_ref, kIsNot_non, kIsNot_bl, kIsNot_int, kIsNot_str, kIsNot_tup, kIsNot_ref, opAdd_int, opAdd_str, opSub_int, opMul_int, opDiv_int, opMod_int, opPow_int, opAnd_int, opOr_int, opNeg_int, eChain_at, kc1_some, kc2_some, kc3_true, kc3_false, kc4_some, tOf_at, kTru_some, kTru2_some, truD_non, truD_bl, truD_int, truD_tup, tAnd_at, kAnd_true, kAnd_false, tOr_at, kOr_true, kOr_false, tNot_at, kNot_some, tYes_at, eAnd_at, keAnd_some, keAnd2_true, keAnd2_false, eOr_at, keOr_some, keOr2_true, keOr2_false, eNot_at, keNot_some, keNot2_some, eIf_at, keIf_true, keIf_false, aNil_at, aCons_at, ka1_some, ka2_some, eTup_at, kTup_0, kTup_1, kTup_2, kTup_3, kTup_4, kTup_5, kTup_6, eLst_at, kLst_0, kLst_1, kLst_2, kLst_3, kLst_4, eDic0_at, eCall_at, kCall_some, o1_at, isiO_at, kIsi_some, tyD_non, tyD_bl, tyD_int, tyD_str, tyD_tup, eBM_at, kbm1_some, kbm2_some, eSl_at, ks2_some, ks3_some, ks4_some, oNone_at, oSome_at, kSome_int, slO_str, sSeq_at, kSeq_nx, kSeq_rt, kSeq_bk, kSeq_ct, sNext_at, sBreak_at, sCont_at, sRetN_at, sRet_at, kRet_some, sExpr_at, kExpr_some, sSet_at, kSet_some, sIf_at, kIf_true, kIf_false, sPar2_k, kPar2_some, sPar3_k, kPar3_some, sAsg_at, kAsg_some, kAsg2_some, mName_at, mTup_2, mTup_3, mCons_at, kmCons_some, mNil_at, sPut_at, kp1_some, kp2_some, kp3_some, kp4_some, kFn_rt, kFn_nx, mkFn_0, mkFn_1, mkFn_2, mkFn_3, mkFn_4, mkFn_5, sWhile_at, List.getElem?_cons_zero, List.getElem?_cons_succ, List.set_cons_zero, List.set_cons_succ, List.replicate_succ, List.replicate_zero, Nat.reduceSub, Bool.not_true, Bool.not_false, ite_true, ite_false, if_true, if_false, reduceCtorEq, cDv_2, cMd_2, gDv_2, gMd_2, cMr_2, cMl_2, cDv_3, cMd_3, gDv_3, gMd_3, cMr_3, cMl_3, cDv_4, cMd_4, gDv_4, gMd_4, cMr_4, cMl_4, cDv_5, cMd_5, gDv_5, gMd_5, cMr_5, cMl_5, cDv_6, cMd_6, gDv_6, gMd_6, cMr_6, cMl_6, cDv_7, cMd_7, gDv_7, gMd_7, cMr_7, cMl_7, cDv_8, cMd_8, gDv_8, gMd_8, cMr_8, cMl_8, cDv_12, cMd_12, gDv_12, gMd_12, cMr_12, cMl_12, cDv_15, cMd_15, gDv_15, gMd_15, cMr_15, cMl_15, cDv_30, cMd_30, gDv_30, gMd_30, cMr_30, cMl_30, cDv_31, cMd_31, gDv_31, gMd_31, cMr_31, cMl_31, cDv_40, cMd_40, gDv_40, gMd_40, cMr_40, cMl_40, cDv_57, cMd_57, gDv_57, gMd_57, cMr_57, cMl_57, cDv_60, cMd_60, gDv_60, gMd_60, cMr_60, cMl_60, cDv_94, cMd_94, gDv_94, gMd_94, cMr_94, cMl_94, cDv_240, cMd_240, gDv_240, gMd_240, cMr_240, cMl_240, cDv_7919, cMd_7919, gDv_7919, gMd_7919, cMr_7919, cMl_7919, cDv_16807, cMd_16807, gDv_16807, gMd_16807, cMr_16807, cMl_16807, cDv_48271, cMd_48271, gDv_48271, gMd_48271, cMr_48271, cMl_48271, cDv_1000000007, cMd_1000000007, gDv_1000000007, gMd_1000000007, cMr_1000000007, cMl_1000000007, cDv_2147483629, cMd_2147483629, gDv_2147483629, gMd_2147483629, cMr_2147483629, cMl_2147483629, cDv_2147483647, cMd_2147483647, gDv_2147483647, gMd_2147483647, cMr_2147483647, cMl_2147483647, e, a1, a2, sl, -opAdd_str, List.append_nil]
  · have f : ∀ c ∈ ([97, 98, 34, 35, 49] : List Nat), 32 ≤ c ∧ c < 128 := by decide
    have f2 : ∀ c ∈ ([35, 32] : List Nat), 32 ≤ c ∧ c < 128 := by decide
    rcases List.mem_append.mp hc with hc | hc
    · exact f2 c hc
    · exact f c (mem_cut hc)
theorem ret2 : ∃ r g, sRet (eBin opAdd (eBin opAdd (eBin opAdd (eBin opMul (eC (.str [32])) (eVar 1)) (eC (.str [115, 97, 121, 40, 34]))) (eSl (eC (.str [97, 35, 98, 32, 35, 32])) oNone (oSome (eBin opMod (eBin opDiv (eVar 2) (eC (.int 8))) (eC (.int 7)))))) (eC (.str [34, 41, 32, 35, 32, 99]))) [x0, some (.int b), some (.int m), none, none] st = some (.rt (.str r), [x0, some (.int b), some (.int m), none, none], st ++ g) ∧ Row r := by
  have e := mul32 b h0 h1 st
  have le := rep_len h0 h1
  have a1 := add_tl (x := List.replicate b.toNat 32) (y := [115, 97, 121, 40, 34]) (by omega) (by decide) st
  have cl := cutG_len [97, 35, 98, 32, 35, 32] none (some (m / 8 % 7))
  have e3 : ([97, 35, 98, 32, 35, 32] : List Nat).length = 6 := rfl
  have e2 : ([115, 97, 121, 40, 34] : List Nat).length = 5 := rfl
  have e4 : ([34, 41, 32, 35, 32, 99] : List Nat).length = 6 := rfl
  have a2 := add_tl (x := List.replicate b.toNat 32 ++ [115, 97, 121, 40, 34]) (y := cutG [97, 35, 98, 32, 35, 32] none (some (m / 8 % 7))) (by rw [List.length_append, e2]; omega) (by omega) st
  have a3 := add_tl (x := List.replicate b.toNat 32 ++ [115, 97, 121, 40, 34] ++ cutG [97, 35, 98, 32, 35, 32] none (some (m / 8 % 7))) (y := [34, 41, 32, 35, 32, 99]) (by rw [List.length_append, List.length_append, e2]; omega) (by decide) st
  have sl : ([97, 35, 98, 32, 35, 32] : List Nat).length ≤ LIM := by decide
  refine ⟨_, [], ?_, row_mk h0 h1 (l := [115, 97, 121, 40, 34] ++ cutG [97, 35, 98, 32, 35, 32] none (some (m / 8 % 7)) ++ [34, 41, 32, 35, 32, 99]) ⟨by rw [List.length_append, List.length_append, e2, e4]; omega, fun c hc => ?_⟩⟩
  · simp only [eVar_at, kVar_some, eC_at, eBin_at, k2_some, k3_some, eUn_at, k1_some, kVal_some, kBl_some, kEq_at, kBlN_some, kNe_at, kIn_at, kNotIn_at, kIx_at, ixO_tup, kLt_int, kLe_int, kGt_int, kGe_int, kLt_str, kLe_str, kGt_str, kGe_str, kIs_non, kIs_bl, kIs_int, kIs_str, kIs_tup, kIs_ref, kIsNot_non, kIsNot_bl, kIsNot_int, kIsNot_str, kIsNot_tup, kIsNot_ref, opAdd_int, opAdd_str, opSub_int, opMul_int, opDiv_int, opMod_int, opPow_int, opAnd_int, opOr_int, opNeg_int, eChain_at, kc1_some, kc2_some, kc3_true, kc3_false, kc4_some, tOf_at, kTru_some, kTru2_some, truD_non, truD_bl, truD_int, truD_tup, tAnd_at, kAnd_true, kAnd_false, tOr_at, kOr_true, kOr_false, tNot_at, kNot_some, tYes_at, eAnd_at, keAnd_some, keAnd2_true, keAnd2_false, eOr_at, keOr_some, keOr2_true, keOr2_false, eNot_at, keNot_some, keNot2_some, eIf_at, keIf_true, keIf_false, aNil_at, aCons_at, ka1_some, ka2_some, eTup_at, kTup_0, kTup_1, kTup_2, kTup_3, kTup_4, kTup_5, kTup_6, eLst_at, kLst_0, kLst_1, kLst_2, kLst_3, kLst_4, eDic0_at, eCall_at, kCall_some, o1_at, isiO_at, kIsi_some, tyD_non, tyD_bl, tyD_int, tyD_str, tyD_tup, eBM_at, kbm1_some, kbm2_some, eSl_at, ks2_some, ks3_some, ks4_some, oNone_at, oSome_at, kSome_int, slO_str, sSeq_at, kSeq_nx, kSeq_rt, kSeq_bk, kSeq_ct, sNext_at, sBreak_at, sCont_at, sRetN_at, sRet_at, kRet_some, sExpr_at, kExpr_some, sSet_at, kSet_some, sIf_at, kIf_true, kIf_false, sPar2_k, kPar2_some, sPar3_k, kPar3_some, sAsg_at, kAsg_some, kAsg2_some, mName_at, mTup_2, mTup_3, mCons_at, kmCons_some, mNil_at, sPut_at, kp1_some, kp2_some, kp3_some, kp4_some, kFn_rt, kFn_nx, mkFn_0, mkFn_1, mkFn_2, mkFn_3, mkFn_4, mkFn_5, sWhile_at, List.getElem?_cons_zero, List.getElem?_cons_succ, List.set_cons_zero, List.set_cons_succ, List.replicate_succ, List.replicate_zero, Nat.reduceSub, Bool.not_true, Bool.not_false, ite_true, ite_false, if_true, if_false, reduceCtorEq, cDv_2, cMd_2, gDv_2, gMd_2, cMr_2, cMl_2, cDv_3, cMd_3, gDv_3, gMd_3, cMr_3, cMl_3, cDv_4, cMd_4, gDv_4, gMd_4, cMr_4, cMl_4, cDv_5, cMd_5, gDv_5, gMd_5, cMr_5, cMl_5, cDv_6, cMd_6, gDv_6, gMd_6, cMr_6, cMl_6, cDv_7, cMd_7, gDv_7, gMd_7, cMr_7, cMl_7, cDv_8, cMd_8, gDv_8, gMd_8, cMr_8, cMl_8, cDv_12, cMd_12, gDv_12, gMd_12, cMr_12, cMl_12, cDv_15, cMd_15, gDv_15, gMd_15, cMr_15, cMl_15, cDv_30, cMd_30, gDv_30, gMd_30, cMr_30, cMl_30, cDv_31, cMd_31, gDv_31, gMd_31, cMr_31, cMl_31, cDv_40, cMd_40, gDv_40, gMd_40, cMr_40, cMl_40, cDv_57, cMd_57, gDv_57, gMd_57, cMr_57, cMl_57, cDv_60, cMd_60, gDv_60, gMd_60, cMr_60, cMl_60, cDv_94, cMd_94, gDv_94, gMd_94, cMr_94, cMl_94, cDv_240, cMd_240, gDv_240, gMd_240, cMr_240, cMl_240, cDv_7919, cMd_7919, gDv_7919, gMd_7919, cMr_7919, cMl_7919, cDv_16807, cMd_16807, gDv_16807, gMd_16807, cMr_16807, cMl_16807, cDv_48271, cMd_48271, gDv_48271, gMd_48271, cMr_48271, cMl_48271, cDv_1000000007, cMd_1000000007, gDv_1000000007, gMd_1000000007, cMr_1000000007, cMl_1000000007, cDv_2147483629, cMd_2147483629, gDv_2147483629, gMd_2147483629, cMr_2147483629, cMl_2147483629, cDv_2147483647, cMd_2147483647, gDv_2147483647, gMd_2147483647, cMr_2147483647, cMl_2147483647, e, a1, a2, a3, sl, -opAdd_str, List.append_nil]
    simp only [List.append_assoc]
  · have f : ∀ c ∈ ([97, 35, 98, 32, 35, 32] : List Nat), 32 ≤ c ∧ c < 128 := by decide
    have f2 : ∀ c ∈ ([115, 97, 121, 40, 34] : List Nat), 32 ≤ c ∧ c < 128 := by decide
    have f3 : ∀ c ∈ ([34, 41, 32, 35, 32, 99] : List Nat), 32 ≤ c ∧ c < 128 := by decide
    rcases List.mem_append.mp hc with hc | hc
    · rcases List.mem_append.mp hc with hc | hc
      · exact f2 c hc
      · exact f c (mem_cut hc)
    · exact f3 c hc
theorem ret3 : ∃ r g, sRet (eBin opAdd (eBin opMul (eC (.str [32])) (eVar 1)) (eBin kIx (eLst (aCons (eC (.str [36])) (aCons (eC (.str [97, 32, 63])) (aCons (eC (.str [95])) (aCons (eC (.str [48, 49])) (aCons (eC (.str [34, 97])) (aCons (eC (.str [98, 32, 34])) (aCons (eC (.str [33, 32, 97])) (aCons (eC (.str [97, 59])) aNil))))))))) (eBin opMod (eBin opDiv (eVar 2) (eC (.int 8))) (eC (.int 8))))) [x0, some (.int b), some (.int m), none, none] st = some (.rt (.str r), [x0, some (.int b), some (.int m), none, none], st ++ g) ∧ Row r := by
  have e := mul32 b h0 h1 st
  have le := rep_len h0 h1
  obtain ⟨z, hz, ez⟩ := atI_in (xs := [D.str [36], .str [97, 32, 63], .str [95], .str [48, 49], .str [34, 97], .str [98, 32, 34], .str [33, 32, 97], .str [97, 59]]) (i := m / 8 % 8) (by omega) (by show _ < (8 : Int); omega)
  have hy : ∃ y, z = .str y ∧ Tl y := by
    simp only [List.mem_cons, List.not_mem_nil, or_false] at hz
    rcases hz with rfl | rfl | rfl | rfl | rfl | rfl | rfl | rfl <;> exact ⟨_, rfl, by decide, by decide⟩
  obtain ⟨y, rfl, hy⟩ := hy
  have ix : ixO (.ref st.length) (.int (m / 8 % 8)) (st ++ [Ob.lst [D.str [36], .str [97, 32, 63], .str [95], .str [48, 49], .str [34, 97], .str [98, 32, 34], .str [33, 32, 97], .str [97, 59]]]) = some (.str y) := ixO_end.trans ez
  have a := add_tl (x := List.replicate b.toNat 32) (y := y) (by omega) (by have := hy.1; omega) (st ++ [Ob.lst [D.str [36], .str [97, 32, 63], .str [95], .str [48, 49], .str [34, 97], .str [98, 32, 34], .str [33, 32, 97], .str [97, 59]]])
  refine ⟨_, [Ob.lst [D.str [36], .str [97, 32, 63], .str [95], .str [48, 49], .str [34, 97], .str [98, 32, 34], .str [33, 32, 97], .str [97, 59]]], ?_, row_mk h0 h1 hy⟩
  simp only [eVar_at, kVar_some, eC_at, eBin_at, k2_some, k3_some, eUn_at, k1_some, kVal_some, kBl_some, kEq_at, kBlN_some, kNe_at, kIn_at, kNotIn_at, kIx_at, ixO_tup, kLt_int, kLe_int, kGt_int, kGe_int, kLt_str, kLe_str, kGt_str, kGe_str, kIs_non, kIs_bl, kIs_int, kIs_str, kIs_tup, kIs_ref, kIsNot_non, kIsNot_bl, kIsNot_int, kIsNot_str, kIsNot_tup, kIsNot_ref, opAdd_int, opAdd_str, opSub_int, opMul_int, opDiv_int, opMod_int, opPow_int, opAnd_int, opOr_int, opNeg_int, eChain_at, kc1_some, kc2_some, kc3_true, kc3_false, kc4_some, tOf_at, kTru_some, kTru2_some, truD_non, truD_bl, truD_int, truD_tup, tAnd_at, kAnd_true, kAnd_false, tOr_at, kOr_true, kOr_false, tNot_at, kNot_some, tYes_at, eAnd_at, keAnd_some, keAnd2_true, keAnd2_false, eOr_at, keOr_some, keOr2_true, keOr2_false, eNot_at, keNot_some, keNot2_some, eIf_at, keIf_true, keIf_false, aNil_at, aCons_at, ka1_some, ka2_some, eTup_at, kTup_0, kTup_1, kTup_2, kTup_3, kTup_4, kTup_5, kTup_6, eLst_at, kLst_0, kLst_1, kLst_2, kLst_3, kLst_4, eDic0_at, eCall_at, kCall_some, o1_at, isiO_at, kIsi_some, tyD_non, tyD_bl, tyD_int, tyD_str, tyD_tup, eBM_at, kbm1_some, kbm2_some, eSl_at, ks2_some, ks3_some, ks4_some, oNone_at, oSome_at, kSome_int, slO_str, sSeq_at, kSeq_nx, kSeq_rt, kSeq_bk, kSeq_ct, sNext_at, sBreak_at, sCont_at, sRetN_at, sRet_at, kRet_some, sExpr_at, kExpr_some, sSet_at, kSet_some, sIf_at, kIf_true, kIf_false, sPar2_k, kPar2_some, sPar3_k, kPar3_some, sAsg_at, kAsg_some, kAsg2_some, mName_at, mTup_2, mTup_3, mCons_at, kmCons_some, mNil_at, sPut_at, kp1_some, kp2_some, kp3_some, kp4_some, kFn_rt, kFn_nx, mkFn_0, mkFn_1, mkFn_2, mkFn_3, mkFn_4, mkFn_5, sWhile_at, List.getElem?_cons_zero, List.getElem?_cons_succ, List.set_cons_zero, List.set_cons_succ, List.replicate_succ, List.replicate_zero, Nat.reduceSub, Bool.not_true, Bool.not_false, ite_true, ite_false, if_true, if_false, reduceCtorEq, cDv_2, cMd_2, gDv_2, gMd_2, cMr_2, cMl_2, cDv_3, cMd_3, gDv_3, gMd_3, cMr_3, cMl_3, cDv_4, cMd_4, gDv_4, gMd_4, cMr_4, cMl_4, cDv_5, cMd_5, gDv_5, gMd_5, cMr_5, cMl_5, cDv_6, cMd_6, gDv_6, gMd_6, cMr_6, cMl_6, cDv_7, cMd_7, gDv_7, gMd_7, cMr_7, cMl_7, cDv_8, cMd_8, gDv_8, gMd_8, cMr_8, cMl_8, cDv_12, cMd_12, gDv_12, gMd_12, cMr_12, cMl_12, cDv_15, cMd_15, gDv_15, gMd_15, cMr_15, cMl_15, cDv_30, cMd_30, gDv_30, gMd_30, cMr_30, cMl_30, cDv_31, cMd_31, gDv_31, gMd_31, cMr_31, cMl_31, cDv_40, cMd_40, gDv_40, gMd_40, cMr_40, cMl_40, cDv_57, cMd_57, gDv_57, gMd_57, cMr_57, cMl_57, cDv_60, cMd_60, gDv_60, gMd_60, cMr_60, cMl_60, cDv_94, cMd_94, gDv_94, gMd_94, cMr_94, cMl_94, cDv_240, cMd_240, gDv_240, gMd_240, cMr_240, cMl_240, cDv_7919, cMd_7919, gDv_7919, gMd_7919, cMr_7919, cMl_7919, cDv_16807, cMd_16807, gDv_16807, gMd_16807, cMr_16807, cMl_16807, cDv_48271, cMd_48271, gDv_48271, gMd_48271, cMr_48271, cMl_48271, cDv_1000000007, cMd_1000000007, gDv_1000000007, gMd_1000000007, cMr_1000000007, cMl_1000000007, cDv_2147483629, cMd_2147483629, gDv_2147483629, gMd_2147483629, cMr_2147483629, cMl_2147483629, cDv_2147483647, cMd_2147483647, gDv_2147483647, gMd_2147483647, cMr_2147483647, cMl_2147483647, e, kLst6, kLst8, ix, a, -opAdd_str]
theorem ret4 : ∃ r g, sRet (eBin opAdd (eBin opMul (eC (.str [32])) (eVar 1)) (eBin kIx (eLst (aCons (eC (.str [105, 102, 32, 97, 58])) (aCons (eC (.str [101, 108, 115, 101, 58])) (aCons (eC (.str [120, 32, 61, 32, 49])) (aCons (eC (.str [112, 97, 115, 115, 35])) (aCons (eC (.str [114, 101, 116, 117, 114, 110])) (aCons (eC (.str [121, 43, 61, 50])) aNil))))))) (eBin opMod (eBin opDiv (eVar 2) (eC (.int 8))) (eC (.int 6))))) [x0, some (.int b), some (.int m), none, none] st = some (.rt (.str r), [x0, some (.int b), some (.int m), none, none], st ++ g) ∧ Row r := by
  have e := mul32 b h0 h1 st
  have le := rep_len h0 h1
  obtain ⟨z, hz, ez⟩ := atI_in (xs := [D.str [105, 102, 32, 97, 58], .str [101, 108, 115, 101, 58], .str [120, 32, 61, 32, 49], .str [112, 97, 115, 115, 35], .str [114, 101, 116, 117, 114, 110], .str [121, 43, 61, 50]]) (i := m / 8 % 6) (by omega) (by show _ < (6 : Int); omega)
  have hy : ∃ y, z = .str y ∧ Tl y := by
    simp only [List.mem_cons, List.not_mem_nil, or_false] at hz
    rcases hz with rfl | rfl | rfl | rfl | rfl | rfl <;> exact ⟨_, rfl, by decide, by decide⟩
  obtain ⟨y, rfl, hy⟩ := hy
  have ix : ixO (.ref st.length) (.int (m / 8 % 6)) (st ++ [Ob.lst [D.str [105, 102, 32, 97, 58], .str [101, 108, 115, 101, 58], .str [120, 32, 61, 32, 49], .str [112, 97, 115, 115, 35], .str [114, 101, 116, 117, 114, 110], .str [121, 43, 61, 50]]]) = some (.str y) := ixO_end.trans ez
  have a := add_tl (x := List.replicate b.toNat 32) (y := y) (by omega) (by have := hy.1; omega) (st ++ [Ob.lst [D.str [105, 102, 32, 97, 58], .str [101, 108, 115, 101, 58], .str [120, 32, 61, 32, 49], .str [112, 97, 115, 115, 35], .str [114, 101, 116, 117, 114, 110], .str [121, 43, 61, 50]]])
  refine ⟨_, [Ob.lst [D.str [105, 102, 32, 97, 58], .str [101, 108, 115, 101, 58], .str [120, 32, 61, 32, 49], .str [112, 97, 115, 115, 35], .str [114, 101, 116, 117, 114, 110], .str [121, 43, 61, 50]]], ?_, row_mk h0 h1 hy⟩
  simp only [eVar_at, kVar_some, eC_at, eBin_at, k2_some, k3_some, eUn_at, k1_some, kVal_some, kBl_some, kEq_at, kBlN_some, kNe_at, kIn_at, kNotIn_at, kIx_at, ixO_tup, kLt_int, kLe_int, kGt_int, kGe_int, kLt_str, kLe_str, kGt_str, kGe_str, kIs_non, kIs_bl, kIs_int, kIs_str, kIs_tup, kIs_ref, kIsNot_non, kIsNot_bl, kIsNot_int, kIsNot_str, kIsNot_tup, kIsNot_ref, opAdd_int, opAdd_str, opSub_int, opMul_int, opDiv_int, opMod_int, opPow_int, opAnd_int, opOr_int, opNeg_int, eChain_at, kc1_some, kc2_some, kc3_true, kc3_false, kc4_some, tOf_at, kTru_some, kTru2_some, truD_non, truD_bl, truD_int, truD_tup, tAnd_at, kAnd_true, kAnd_false, tOr_at, kOr_true, kOr_false, tNot_at, kNot_some, tYes_at, eAnd_at, keAnd_some, keAnd2_true, keAnd2_false, eOr_at, keOr_some, keOr2_true, keOr2_false, eNot_at, keNot_some, keNot2_some, eIf_at, keIf_true, keIf_false, aNil_at, aCons_at, ka1_some, ka2_some, eTup_at, kTup_0, kTup_1, kTup_2, kTup_3, kTup_4, kTup_5, kTup_6, eLst_at, kLst_0, kLst_1, kLst_2, kLst_3, kLst_4, eDic0_at, eCall_at, kCall_some, o1_at, isiO_at, kIsi_some, tyD_non, tyD_bl, tyD_int, tyD_str, tyD_tup, eBM_at, kbm1_some, kbm2_some, eSl_at, ks2_some, ks3_some, ks4_some, oNone_at, oSome_at, kSome_int, slO_str, sSeq_at, kSeq_nx, kSeq_rt, kSeq_bk, kSeq_ct, sNext_at, sBreak_at, sCont_at, sRetN_at, sRet_at, kRet_some, sExpr_at, kExpr_some, sSet_at, kSet_some, sIf_at, kIf_true, kIf_false, sPar2_k, kPar2_some, sPar3_k, kPar3_some, sAsg_at, kAsg_some, kAsg2_some, mName_at, mTup_2, mTup_3, mCons_at, kmCons_some, mNil_at, sPut_at, kp1_some, kp2_some, kp3_some, kp4_some, kFn_rt, kFn_nx, mkFn_0, mkFn_1, mkFn_2, mkFn_3, mkFn_4, mkFn_5, sWhile_at, List.getElem?_cons_zero, List.getElem?_cons_succ, List.set_cons_zero, List.set_cons_succ, List.replicate_succ, List.replicate_zero, Nat.reduceSub, Bool.not_true, Bool.not_false, ite_true, ite_false, if_true, if_false, reduceCtorEq, cDv_2, cMd_2, gDv_2, gMd_2, cMr_2, cMl_2, cDv_3, cMd_3, gDv_3, gMd_3, cMr_3, cMl_3, cDv_4, cMd_4, gDv_4, gMd_4, cMr_4, cMl_4, cDv_5, cMd_5, gDv_5, gMd_5, cMr_5, cMl_5, cDv_6, cMd_6, gDv_6, gMd_6, cMr_6, cMl_6, cDv_7, cMd_7, gDv_7, gMd_7, cMr_7, cMl_7, cDv_8, cMd_8, gDv_8, gMd_8, cMr_8, cMl_8, cDv_12, cMd_12, gDv_12, gMd_12, cMr_12, cMl_12, cDv_15, cMd_15, gDv_15, gMd_15, cMr_15, cMl_15, cDv_30, cMd_30, gDv_30, gMd_30, cMr_30, cMl_30, cDv_31, cMd_31, gDv_31, gMd_31, cMr_31, cMl_31, cDv_40, cMd_40, gDv_40, gMd_40, cMr_40, cMl_40, cDv_57, cMd_57, gDv_57, gMd_57, cMr_57, cMl_57, cDv_60, cMd_60, gDv_60, gMd_60, cMr_60, cMl_60, cDv_94, cMd_94, gDv_94, gMd_94, cMr_94, cMl_94, cDv_240, cMd_240, gDv_240, gMd_240, cMr_240, cMl_240, cDv_7919, cMd_7919, gDv_7919, gMd_7919, cMr_7919, cMl_7919, cDv_16807, cMd_16807, gDv_16807, gMd_16807, cMr_16807, cMl_16807, cDv_48271, cMd_48271, gDv_48271, gMd_48271, cMr_48271, cMl_48271, cDv_1000000007, cMd_1000000007, gDv_1000000007, gMd_1000000007, cMr_1000000007, cMl_1000000007, cDv_2147483629, cMd_2147483629, gDv_2147483629, gMd_2147483629, cMr_2147483629, cMl_2147483629, cDv_2147483647, cMd_2147483647, gDv_2147483647, gMd_2147483647, cMr_2147483647, cMl_2147483647, e, kLst6, kLst8, ix, a, -opAdd_str]
end
end Math


set_option maxRecDepth 100000
set_option maxHeartbeats 4000000
namespace Math
open MP Text PySem
theorem paired_str {α : Type} {P : List Nat → Prop} : ∀ {l : List α} {vs : List D}, Paired (fun _ v => ∃ y, v = D.str y ∧ P y) l vs → ∃ ys : List (List Nat), vs = ys.map D.str ∧ (∀ y ∈ ys, P y) ∧ ys.length = l.length
  | _, _, .nil => ⟨[], rfl, (fun p hp => by cases hp), rfl⟩
  | d :: l, _, .cons h t => by
    obtain ⟨y, rfl, hy⟩ := h
    obtain ⟨ys, e1, e2, e3⟩ := paired_str t
    refine ⟨y :: ys, by rw [e1]; rfl, fun p hp => ?_, by rw [List.length_cons, List.length_cons, e3]⟩
    rcases List.mem_cons.mp hp with rfl | hp
    · exact hy
    · exact e2 p hp
theorem tYes0 (ρ : Rho) (st : Sto) : tYesM ρ st = some (true, st) := rfl
theorem sign_at (m : Int) {k : Nat} (hk : k ≤ 100) (x0 x1 x3 : Option D) (st : Sto) : ∃ c, eC_l_row_1 [x0, x1, some (.int m), x3, some (.int (k : Nat))] st = some (.str [c], st) ∧ 32 ≤ c ∧ c < 128 := by
  obtain ⟨r, e1, r0, r1⟩ := mixed m hk st
  have e2 := signs_is st
  obtain ⟨c, hc, ec⟩ := atI_in (xs := SG) (i := r % 94) (by omega) (by show _ < (94 : Int); omega)
  have ix : ixO (.str SG) (.int (r % 94)) st = some (.str [c]) := by
    have : SG.length ≤ LIM := by decide
    show (if SG.length ≤ LIM then (L2.atI SG (r % 94)).map fun c => D.str [c] else none) = _
    rw [if_pos this, ec]
    rfl
  refine ⟨c, ?_, sg_fine c hc⟩
  simp only [eC_l_row_1, eVar_at, kVar_some, eC_at, eBin_at, k2_some, k3_some, eUn_at, k1_some, kVal_some, kBl_some, kEq_at, kBlN_some, kNe_at, kIn_at, kNotIn_at, kIx_at, ixO_tup, kLt_int, kLe_int, kGt_int, kGe_int, kLt_str, kLe_str, kGt_str, kGe_str, kIs_non, kIs_bl, kIs_int, kIs_str, kIs_tup, kIs_ref, kIsNot_non, kIsNot_bl, kIsNot_int, kIsNot_str, kIsNot_tup, kIsNot_ref, opAdd_int, opAdd_str, opSub_int, opMul_int, opDiv_int, opMod_int, opPow_int, opAnd_int, opOr_int, opNeg_int, eChain_at, kc1_some, kc2_some, kc3_true, kc3_false, kc4_some, tOf_at, kTru_some, kTru2_some, truD_non, truD_bl, truD_int, truD_tup, tAnd_at, kAnd_true, kAnd_false, tOr_at, kOr_true, kOr_false, tNot_at, kNot_some, tYes_at, eAnd_at, keAnd_some, keAnd2_true, keAnd2_false, eOr_at, keOr_some, keOr2_true, keOr2_false, eNot_at, keNot_some, keNot2_some, eIf_at, keIf_true, keIf_false, aNil_at, aCons_at, ka1_some, ka2_some, eTup_at, kTup_0, kTup_1, kTup_2, kTup_3, kTup_4, kTup_5, kTup_6, eLst_at, kLst_0, kLst_1, kLst_2, kLst_3, kLst_4, eDic0_at, eCall_at, kCall_some, o1_at, isiO_at, kIsi_some, tyD_non, tyD_bl, tyD_int, tyD_str, tyD_tup, eBM_at, kbm1_some, kbm2_some, eSl_at, ks2_some, ks3_some, ks4_some, oNone_at, oSome_at, kSome_int, slO_str, sSeq_at, kSeq_nx, kSeq_rt, kSeq_bk, kSeq_ct, sNext_at, sBreak_at, sCont_at, sRetN_at, sRet_at, kRet_some, sExpr_at, kExpr_some, sSet_at, kSet_some, sIf_at, kIf_true, kIf_false, sPar2_k, kPar2_some, sPar3_k, kPar3_some, sAsg_at, kAsg_some, kAsg2_some, mName_at, mTup_2, mTup_3, mCons_at, kmCons_some, mNil_at, sPut_at, kp1_some, kp2_some, kp3_some, kp4_some, kFn_rt, kFn_nx, mkFn_0, mkFn_1, mkFn_2, mkFn_3, mkFn_4, mkFn_5, sWhile_at, List.getElem?_cons_zero, List.getElem?_cons_succ, List.set_cons_zero, List.set_cons_succ, List.replicate_succ, List.replicate_zero, Nat.reduceSub, Bool.not_true, Bool.not_false, ite_true, ite_false, if_true, if_false, reduceCtorEq, cDv_2, cMd_2, gDv_2, gMd_2, cMr_2, cMl_2, cDv_3, cMd_3, gDv_3, gMd_3, cMr_3, cMl_3, cDv_4, cMd_4, gDv_4, gMd_4, cMr_4, cMl_4, cDv_5, cMd_5, gDv_5, gMd_5, cMr_5, cMl_5, cDv_6, cMd_6, gDv_6, gMd_6, cMr_6, cMl_6, cDv_7, cMd_7, gDv_7, gMd_7, cMr_7, cMl_7, cDv_8, cMd_8, gDv_8, gMd_8, cMr_8, cMl_8, cDv_12, cMd_12, gDv_12, gMd_12, cMr_12, cMl_12, cDv_15, cMd_15, gDv_15, gMd_15, cMr_15, cMl_15, cDv_30, cMd_30, gDv_30, gMd_30, cMr_30, cMl_30, cDv_31, cMd_31, gDv_31, gMd_31, cMr_31, cMl_31, cDv_40, cMd_40, gDv_40, gMd_40, cMr_40, cMl_40, cDv_57, cMd_57, gDv_57, gMd_57, cMr_57, cMl_57, cDv_60, cMd_60, gDv_60, gMd_60, cMr_60, cMl_60, cDv_94, cMd_94, gDv_94, gMd_94, cMr_94, cMl_94, cDv_240, cMd_240, gDv_240, gMd_240, cMr_240, cMl_240, cDv_7919, cMd_7919, gDv_7919, gMd_7919, cMr_7919, cMl_7919, cDv_16807, cMd_16807, gDv_16807, gMd_16807, cMr_16807, cMl_16807, cDv_48271, cMd_48271, gDv_48271, gMd_48271, cMr_48271, cMl_48271, cDv_1000000007, cMd_1000000007, gDv_1000000007, gMd_1000000007, cMr_1000000007, cMl_1000000007, cDv_2147483629, cMd_2147483629, gDv_2147483629, gMd_2147483629, cMr_2147483629, cMl_2147483629, cDv_2147483647, cMd_2147483647, gDv_2147483647, gMd_2147483647, cMr_2147483647, cMl_2147483647, e1, e2, ix]
def Tl1 (y : List Nat) : Prop := ∃ c, y = [c] ∧ 32 ≤ c ∧ c < 128
theorem sum1 : ∀ {ys : List (List Nat)}, (∀ y ∈ ys, Tl1 y) → ys.flatten.length = ys.length ∧ (ys.map List.length).sum = ys.length ∧ ∀ c ∈ ys.flatten, 32 ≤ c ∧ c < 128
  | [], _ => ⟨rfl, rfl, fun c hc => by cases hc⟩
  | y :: r, h => by
    obtain ⟨a1, a2, a3⟩ := sum1 fun x hx => h x (.tail _ hx)
    obtain ⟨c, rfl, hc⟩ := h y (.head _)
    refine ⟨by rw [List.flatten_cons, List.length_append, a1, List.length_cons]; simp; omega, by rw [List.map_cons, List.sum_cons, a2, List.length_cons]; simp; omega, fun d hd => ?_⟩
    rw [List.flatten_cons] at hd
    rcases List.mem_append.mp hd with hd | hd
    · rw [List.mem_singleton.mp hd]
      exact hc
    · exact a3 d hd
theorem ret5 {b m : Int} (h0 : 0 ≤ b) (h1 : b ≤ 56) (x0 : Option D) (st : Sto) : ∃ r g ρ', (sSeq (sSet 3 (eBM isS joinM (eC (.str [])) (aCons (eLc [4] (iR1 (aCons (eBin opMod (eBin opDiv (eVar 2) (eC (.int 8))) (eC (.int 6))) aNil)) (mName 4) tYesM eC_l_row_1) aNil))) (sRet (eBin opAdd (eBin opMul (eC (.str [32])) (eVar 1)) (eVar 3)))) [x0, some (.int b), some (.int m), none, none] st = some (.rt (.str r), ρ', st ++ g) ∧ Row r := by
  obtain ⟨n, hn⟩ := Int.eq_ofNat_of_zero_le (show 0 ≤ m / 8 % 6 by omega)
  have n6 : n < 6 := by omega
  have hi : iR1 (aCons (eBin opMod (eBin opDiv (eVar 2) (eC (.int 8))) (eC (.int 6))) aNil) [x0, some (.int b), some (.int m), none, none] st = some (((List.range n).map fun i : Nat => D.int (0 + (i : Nat)), fun _ => True), st) := by
    rw [iR1_at]
    have : aCons (eBin opMod (eBin opDiv (eVar 2) (eC (.int 8))) (eC (.int 6))) aNil [x0, some (.int b), some (.int m), none, none] st = some ([.int (n : Int)], st) := by
      simp only [eVar_at, kVar_some, eC_at, eBin_at, k2_some, k3_some, eUn_at, k1_some, kVal_some, kBl_some, kEq_at, kBlN_some, kNe_at, kIn_at, kNotIn_at, kIx_at, ixO_tup, kLt_int, kLe_int, kGt_int, kGe_int, kLt_str, kLe_str, kGt_str, kGe_str, kIs_non, kIs_bl, kIs_int, kIs_str, kIs_tup, kIs_ref, kIsNot_non, kIsNot_bl, kIsNot_int, kIsNot_str, kIsNot_tup, kIsNot_ref, opAdd_int, opAdd_str, opSub_int, opMul_int, opDiv_int, opMod_int, opPow_int, opAnd_int, opOr_int, opNeg_int, eChain_at, kc1_some, kc2_some, kc3_true, kc3_false, kc4_some, tOf_at, kTru_some, kTru2_some, truD_non, truD_bl, truD_int, truD_tup, tAnd_at, kAnd_true, kAnd_false, tOr_at, kOr_true, kOr_false, tNot_at, kNot_some, tYes_at, eAnd_at, keAnd_some, keAnd2_true, keAnd2_false, eOr_at, keOr_some, keOr2_true, keOr2_false, eNot_at, keNot_some, keNot2_some, eIf_at, keIf_true, keIf_false, aNil_at, aCons_at, ka1_some, ka2_some, eTup_at, kTup_0, kTup_1, kTup_2, kTup_3, kTup_4, kTup_5, kTup_6, eLst_at, kLst_0, kLst_1, kLst_2, kLst_3, kLst_4, eDic0_at, eCall_at, kCall_some, o1_at, isiO_at, kIsi_some, tyD_non, tyD_bl, tyD_int, tyD_str, tyD_tup, eBM_at, kbm1_some, kbm2_some, eSl_at, ks2_some, ks3_some, ks4_some, oNone_at, oSome_at, kSome_int, slO_str, sSeq_at, kSeq_nx, kSeq_rt, kSeq_bk, kSeq_ct, sNext_at, sBreak_at, sCont_at, sRetN_at, sRet_at, kRet_some, sExpr_at, kExpr_some, sSet_at, kSet_some, sIf_at, kIf_true, kIf_false, sPar2_k, kPar2_some, sPar3_k, kPar3_some, sAsg_at, kAsg_some, kAsg2_some, mName_at, mTup_2, mTup_3, mCons_at, kmCons_some, mNil_at, sPut_at, kp1_some, kp2_some, kp3_some, kp4_some, kFn_rt, kFn_nx, mkFn_0, mkFn_1, mkFn_2, mkFn_3, mkFn_4, mkFn_5, sWhile_at, List.getElem?_cons_zero, List.getElem?_cons_succ, List.set_cons_zero, List.set_cons_succ, List.replicate_succ, List.replicate_zero, Nat.reduceSub, Bool.not_true, Bool.not_false, ite_true, ite_false, if_true, if_false, reduceCtorEq, cDv_2, cMd_2, gDv_2, gMd_2, cMr_2, cMl_2, cDv_3, cMd_3, gDv_3, gMd_3, cMr_3, cMl_3, cDv_4, cMd_4, gDv_4, gMd_4, cMr_4, cMl_4, cDv_5, cMd_5, gDv_5, gMd_5, cMr_5, cMl_5, cDv_6, cMd_6, gDv_6, gMd_6, cMr_6, cMl_6, cDv_7, cMd_7, gDv_7, gMd_7, cMr_7, cMl_7, cDv_8, cMd_8, gDv_8, gMd_8, cMr_8, cMl_8, cDv_12, cMd_12, gDv_12, gMd_12, cMr_12, cMl_12, cDv_15, cMd_15, gDv_15, gMd_15, cMr_15, cMl_15, cDv_30, cMd_30, gDv_30, gMd_30, cMr_30, cMl_30, cDv_31, cMd_31, gDv_31, gMd_31, cMr_31, cMl_31, cDv_40, cMd_40, gDv_40, gMd_40, cMr_40, cMl_40, cDv_57, cMd_57, gDv_57, gMd_57, cMr_57, cMl_57, cDv_60, cMd_60, gDv_60, gMd_60, cMr_60, cMl_60, cDv_94, cMd_94, gDv_94, gMd_94, cMr_94, cMl_94, cDv_240, cMd_240, gDv_240, gMd_240, cMr_240, cMl_240, cDv_7919, cMd_7919, gDv_7919, gMd_7919, cMr_7919, cMl_7919, cDv_16807, cMd_16807, gDv_16807, gMd_16807, cMr_16807, cMl_16807, cDv_48271, cMd_48271, gDv_48271, gMd_48271, cMr_48271, cMl_48271, cDv_1000000007, cMd_1000000007, gDv_1000000007, gMd_1000000007, cMr_1000000007, cMl_1000000007, cDv_2147483629, cMd_2147483629, gDv_2147483629, gMd_2147483629, cMr_2147483629, cMl_2147483629, cDv_2147483647, cMd_2147483647, gDv_2147483647, gMd_2147483647, cMr_2147483647, cMl_2147483647, hn]
    rw [this]
    exact kR1_some (n := n) (by unfold LIM; omega)
  obtain ⟨vs, x, e1, p⟩ := eLc_GM (vs0 := [4]) (m := mName 4) (t := tYesM) (f := eC_l_row_1) (b := fun _ => true) (Q := fun _ v _ => ∃ y, v = D.str y ∧ Tl1 y) hi (fun d v s s' h _ => h) (fun _ _ => trivial) (fun i hi acc x => by
    have hi := List.mem_range.mp hi
    refine ⟨[x0, some (.int b), some (.int m), none, some (.int (0 + (i : Int)))], [], rfl, ?_, fun _ => ?_⟩
    · rw [List.append_nil]
      rfl
    · obtain ⟨c, e, hc⟩ := sign_at m (k := i) (by omega) x0 (some (.int b)) none (st ++ Ob.lst acc :: x)
      refine ⟨.str [c], [], ?_, ⟨[c], rfl, c, rfl, hc⟩⟩
      rw [List.append_nil, List.append_nil, Int.zero_add]
      exact e) (by rw [List.length_range]; unfold LIM; omega)
  obtain ⟨ys, rfl, hy, ly⟩ := paired_str p
  have ly6 : ys.length ≤ 5 := by
    have := List.length_filter_le (fun _ => true) (List.range n)
    rw [List.length_range] at this
    omega
  obtain ⟨s1, s2, s3⟩ := sum1 hy
  have j : joinM (.str []) [.ref st.length] (st ++ .lst (ys.map D.str) :: x) = some (.str ys.flatten, st ++ .lst (ys.map D.str) :: x) := by
    rw [join_end (by rw [s2]; simp; omega), joinD_nil]
  have iss : isS st (.str []) = true := rfl
  have iss2 : isS (st ++ .lst (ys.map D.str) :: x) (.str []) = true := rfl
  have em := mul32 b h0 h1 (st ++ .lst (ys.map D.str) :: x)
  have le := rep_len h0 h1
  have a := add_tl (x := List.replicate b.toNat 32) (y := ys.flatten) (by omega) (by omega) (st ++ .lst (ys.map D.str) :: x)
  refine ⟨_, Ob.lst (ys.map D.str) :: x, [x0, some (.int b), some (.int m), some (.str ys.flatten), none], ?_, row_mk h0 h1 (l := ys.flatten) ⟨by omega, s3⟩⟩
  simp only [eVar_at, kVar_some, eC_at, eBin_at, k2_some, k3_some, eUn_at, k1_some, kVal_some, kBl_some, kEq_at, kBlN_some, kNe_at, kIn_at, kNotIn_at, kIx_at, ixO_tup, kLt_int, kLe_int, kGt_int, kGe_int, kLt_str, kLe_str, kGt_str, kGe_str, kIs_non, kIs_bl, kIs_int, kIs_str, kIs_tup, kIs_ref, kIsNot_non, kIsNot_bl, kIsNot_int, kIsNot_str, kIsNot_tup, kIsNot_ref, opAdd_int, opAdd_str, opSub_int, opMul_int, opDiv_int, opMod_int, opPow_int, opAnd_int, opOr_int, opNeg_int, eChain_at, kc1_some, kc2_some, kc3_true, kc3_false, kc4_some, tOf_at, kTru_some, kTru2_some, truD_non, truD_bl, truD_int, truD_tup, tAnd_at, kAnd_true, kAnd_false, tOr_at, kOr_true, kOr_false, tNot_at, kNot_some, tYes_at, eAnd_at, keAnd_some, keAnd2_true, keAnd2_false, eOr_at, keOr_some, keOr2_true, keOr2_false, eNot_at, keNot_some, keNot2_some, eIf_at, keIf_true, keIf_false, aNil_at, aCons_at, ka1_some, ka2_some, eTup_at, kTup_0, kTup_1, kTup_2, kTup_3, kTup_4, kTup_5, kTup_6, eLst_at, kLst_0, kLst_1, kLst_2, kLst_3, kLst_4, eDic0_at, eCall_at, kCall_some, o1_at, isiO_at, kIsi_some, tyD_non, tyD_bl, tyD_int, tyD_str, tyD_tup, eBM_at, kbm1_some, kbm2_some, eSl_at, ks2_some, ks3_some, ks4_some, oNone_at, oSome_at, kSome_int, slO_str, sSeq_at, kSeq_nx, kSeq_rt, kSeq_bk, kSeq_ct, sNext_at, sBreak_at, sCont_at, sRetN_at, sRet_at, kRet_some, sExpr_at, kExpr_some, sSet_at, kSet_some, sIf_at, kIf_true, kIf_false, sPar2_k, kPar2_some, sPar3_k, kPar3_some, sAsg_at, kAsg_some, kAsg2_some, mName_at, mTup_2, mTup_3, mCons_at, kmCons_some, mNil_at, sPut_at, kp1_some, kp2_some, kp3_some, kp4_some, kFn_rt, kFn_nx, mkFn_0, mkFn_1, mkFn_2, mkFn_3, mkFn_4, mkFn_5, sWhile_at, List.getElem?_cons_zero, List.getElem?_cons_succ, List.set_cons_zero, List.set_cons_succ, List.replicate_succ, List.replicate_zero, Nat.reduceSub, Bool.not_true, Bool.not_false, ite_true, ite_false, if_true, if_false, reduceCtorEq, e1, iss, iss2, j, em, a, -opAdd_str]
theorem t0_is {b m : Int} (h0 : 0 ≤ b) (h1 : b ≤ 56) (x0 : Option D) (st : Sto) : ∃ r g ρ', T0 [x0, some (.int b), some (.int m), none, none] st = some (.rt (.str r), ρ', st ++ g) ∧ Row r := by
  unfold T0
  rw [sSeq_at, if8]
  split
  · obtain ⟨r, g, e, h⟩ := ret0 (m := m) h0 h1 x0 st
    exact ⟨r, g, _, by rw [e, kSeq_rt], h⟩
  rw [kSeq_nx, sSeq_at, if8]
  split
  · obtain ⟨r, g, e, h⟩ := ret1 (m := m) h0 h1 x0 st
    exact ⟨r, g, _, by rw [e, kSeq_rt], h⟩
  rw [kSeq_nx, sSeq_at, if8]
  split
  · obtain ⟨r, g, e, h⟩ := ret2 (m := m) h0 h1 x0 st
    exact ⟨r, g, _, by rw [e, kSeq_rt], h⟩
  rw [kSeq_nx, sSeq_at, if8]
  split
  · obtain ⟨r, g, e, h⟩ := ret3 (m := m) h0 h1 x0 st
    exact ⟨r, g, _, by rw [e, kSeq_rt], h⟩
  rw [kSeq_nx, sSeq_at, if8]
  split
  · obtain ⟨r, g, e, h⟩ := ret4 (m := m) h0 h1 x0 st
    exact ⟨r, g, _, by rw [e, kSeq_rt], h⟩
  rw [kSeq_nx]
  exact ret5 (m := m) h0 h1 x0 st
theorem row_is (n : Int) (st : Sto) : ∃ r g, F_l_row [.int n] st = some (.str r, st ++ g) ∧ Row r := by
  obtain ⟨z, hz, ez⟩ := atI_in (xs := [D.int (4 * (n % 4)), .int (4 * (n % 15)), .int (n % 57), .int 0]) (i := n / 60 % 4) (by omega) (by show _ < (4 : Int); omega)
  have hy : ∃ b : Int, z = .int b ∧ 0 ≤ b ∧ b ≤ 56 := by
    simp only [List.mem_cons, List.not_mem_nil, or_false] at hz
    rcases hz with rfl | rfl | rfl | rfl
    · exact ⟨_, rfl, by omega, by omega⟩
    · exact ⟨_, rfl, by omega, by omega⟩
    · exact ⟨_, rfl, by omega, by omega⟩
    · exact ⟨_, rfl, by omega, by omega⟩
  obtain ⟨b, rfl, h0, h1⟩ := hy
  have ix : ixO (.ref st.length) (.int (n / 60 % 4)) (st ++ [Ob.lst [D.int (4 * (n % 4)), .int (4 * (n % 15)), .int (n % 57), .int 0]]) = some (.int b) := ixO_end.trans ez
  obtain ⟨r, g, ρ', e, h⟩ := t0_is (m := n / 240) h0 h1 (some (.int n)) (st ++ [Ob.lst [D.int (4 * (n % 4)), .int (4 * (n % 15)), .int (n % 57), .int 0]])
  refine ⟨r, [Ob.lst [D.int (4 * (n % 4)), .int (4 * (n % 15)), .int (n % 57), .int 0]] ++ g, ?_, h⟩
  rw [List.append_assoc] at e
  simp only [F_l_row, row_eq, eVar_at, kVar_some, eC_at, eBin_at, k2_some, k3_some, eUn_at, k1_some, kVal_some, kBl_some, kEq_at, kBlN_some, kNe_at, kIn_at, kNotIn_at, kIx_at, ixO_tup, kLt_int, kLe_int, kGt_int, kGe_int, kLt_str, kLe_str, kGt_str, kGe_str, kIs_non, kIs_bl, kIs_int, kIs_str, kIs_tup, kIs_ref, kIsNot_non, kIsNot_bl, kIsNot_int, kIsNot_str, kIsNot_tup, kIsNot_ref, opAdd_int, opAdd_str, opSub_int, opMul_int, opDiv_int, opMod_int, opPow_int, opAnd_int, opOr_int, opNeg_int, eChain_at, kc1_some, kc2_some, kc3_true, kc3_false, kc4_some, tOf_at, kTru_some, kTru2_some, truD_non, truD_bl, truD_int, truD_tup, tAnd_at, kAnd_true, kAnd_false, tOr_at, kOr_true, kOr_false, tNot_at, kNot_some, tYes_at, eAnd_at, keAnd_some, keAnd2_true, keAnd2_false, eOr_at, keOr_some, keOr2_true, keOr2_false, eNot_at, keNot_some, keNot2_some, eIf_at, keIf_true, keIf_false, aNil_at, aCons_at, ka1_some, ka2_some, eTup_at, kTup_0, kTup_1, kTup_2, kTup_3, kTup_4, kTup_5, kTup_6, eLst_at, kLst_0, kLst_1, kLst_2, kLst_3, kLst_4, eDic0_at, eCall_at, kCall_some, o1_at, isiO_at, kIsi_some, tyD_non, tyD_bl, tyD_int, tyD_str, tyD_tup, eBM_at, kbm1_some, kbm2_some, eSl_at, ks2_some, ks3_some, ks4_some, oNone_at, oSome_at, kSome_int, slO_str, sSeq_at, kSeq_nx, kSeq_rt, kSeq_bk, kSeq_ct, sNext_at, sBreak_at, sCont_at, sRetN_at, sRet_at, kRet_some, sExpr_at, kExpr_some, sSet_at, kSet_some, sIf_at, kIf_true, kIf_false, sPar2_k, kPar2_some, sPar3_k, kPar3_some, sAsg_at, kAsg_some, kAsg2_some, mName_at, mTup_2, mTup_3, mCons_at, kmCons_some, mNil_at, sPut_at, kp1_some, kp2_some, kp3_some, kp4_some, kFn_rt, kFn_nx, mkFn_0, mkFn_1, mkFn_2, mkFn_3, mkFn_4, mkFn_5, sWhile_at, List.getElem?_cons_zero, List.getElem?_cons_succ, List.set_cons_zero, List.set_cons_succ, List.replicate_succ, List.replicate_zero, Nat.reduceSub, Bool.not_true, Bool.not_false, ite_true, ite_false, if_true, if_false, reduceCtorEq, cDv_2, cMd_2, gDv_2, gMd_2, cMr_2, cMl_2, cDv_3, cMd_3, gDv_3, gMd_3, cMr_3, cMl_3, cDv_4, cMd_4, gDv_4, gMd_4, cMr_4, cMl_4, cDv_5, cMd_5, gDv_5, gMd_5, cMr_5, cMl_5, cDv_6, cMd_6, gDv_6, gMd_6, cMr_6, cMl_6, cDv_7, cMd_7, gDv_7, gMd_7, cMr_7, cMl_7, cDv_8, cMd_8, gDv_8, gMd_8, cMr_8, cMl_8, cDv_12, cMd_12, gDv_12, gMd_12, cMr_12, cMl_12, cDv_15, cMd_15, gDv_15, gMd_15, cMr_15, cMl_15, cDv_30, cMd_30, gDv_30, gMd_30, cMr_30, cMl_30, cDv_31, cMd_31, gDv_31, gMd_31, cMr_31, cMl_31, cDv_40, cMd_40, gDv_40, gMd_40, cMr_40, cMl_40, cDv_57, cMd_57, gDv_57, gMd_57, cMr_57, cMl_57, cDv_60, cMd_60, gDv_60, gMd_60, cMr_60, cMl_60, cDv_94, cMd_94, gDv_94, gMd_94, cMr_94, cMl_94, cDv_240, cMd_240, gDv_240, gMd_240, cMr_240, cMl_240, cDv_7919, cMd_7919, gDv_7919, gMd_7919, cMr_7919, cMl_7919, cDv_16807, cMd_16807, gDv_16807, gMd_16807, cMr_16807, cMl_16807, cDv_48271, cMd_48271, gDv_48271, gMd_48271, cMr_48271, cMl_48271, cDv_1000000007, cMd_1000000007, gDv_1000000007, gMd_1000000007, cMr_1000000007, cMl_1000000007, cDv_2147483629, cMd_2147483629, gDv_2147483629, gMd_2147483629, cMr_2147483629, cMl_2147483629, cDv_2147483647, cMd_2147483647, gDv_2147483647, gMd_2147483647, cMr_2147483647, cMl_2147483647, ix, List.append_assoc, e]
end Math

set_option maxRecDepth 100000
set_option maxHeartbeats 4000000
namespace Math
open MP Text PySem
theorem rows_made {ns : List Int} {many : Nat} (hm : many ≤ 30) (x1 : D) (st : Sto) (ha : st[0]? = some (.fz (ns.map D.int))) (hx : x1 = .int (many : Nat)) (x2 x3 x5 x6 x7 : Option D) :
    ∃ (rows : List (List Nat)) (x : Sto), eLc [4] (iR1 (aCons (eVar 1) aNil)) (mName 4) tYesM eC_law_3 [some (.ref 0), some x1, x2, x3, none, x5, x6, x7] st = some (.ref st.length, st ++ Ob.lst (rows.map D.str) :: x) ∧ rows.length = many ∧ ∀ l ∈ rows, Row l := by
  subst hx
  have hi : iR1 (aCons (eVar 1) aNil) [some (.ref 0), some (.int (many : Nat)), x2, x3, none, x5, x6, x7] st = some (((List.range many).map fun i : Nat => D.int (0 + (i : Nat)), fun _ => True), st) := by
    rw [iR1_at]
    exact kR1_some (n := many) (by unfold LIM; omega)
  obtain ⟨vs, x, e1, p⟩ := eLc_GM (vs0 := [4]) (m := mName 4) (t := tYesM) (f := eC_law_3) (b := fun _ => true) (Q := fun _ v _ => ∃ y, v = D.str y ∧ Row y) hi (fun d v s s' h _ => h) (fun _ _ => trivial) (fun i hi acc x => by
    have hi := List.mem_range.mp hi
    refine ⟨[some (.ref 0), some (.int (many : Nat)), x2, x3, some (.int (0 + (i : Int))), x5, x6, x7], [], rfl, ?_, fun _ => ?_⟩
    · rw [List.append_nil]
      rfl
    · obtain ⟨c, ec⟩ := cell_at (st := st ++ Ob.lst acc :: x) (j := 0) (k := 1 + i % 40) (ns := ns) (by
        have : (st ++ Ob.lst acc :: x)[0]? = some (.fz (ns.map D.int)) := get_grow ha
        unfold rdL
        rw [this])
      have ec : F_l_cell_at [.ref 0, .int (1 + (i : Int) % 40)] (st ++ Ob.lst acc :: x) = some (.int c, st ++ Ob.lst acc :: x) := by
        have : ((1 + i % 40 : Nat) : Int) = 1 + (i : Int) % 40 := by omega
        rw [this] at ec
        exact ec
      obtain ⟨r, e2, _, _⟩ := mixed c (k := i) (by omega) (st ++ Ob.lst acc :: x)
      obtain ⟨y, g, e3, hr⟩ := row_is r (st ++ Ob.lst acc :: x)
      refine ⟨.str y, g, ?_, ⟨y, rfl, hr⟩⟩
      rw [List.append_nil, Int.zero_add]
      have : st ++ Ob.lst acc :: (x ++ g) = st ++ Ob.lst acc :: x ++ g := by simp
      rw [this]
      simp only [eC_law_3, eVar_at, kVar_some, eC_at, eBin_at, k2_some, k3_some, eUn_at, k1_some, kVal_some, kBl_some, kEq_at, kBlN_some, kNe_at, kIn_at, kNotIn_at, kIx_at, ixO_tup, kLt_int, kLe_int, kGt_int, kGe_int, kLt_str, kLe_str, kGt_str, kGe_str, kIs_non, kIs_bl, kIs_int, kIs_str, kIs_tup, kIs_ref, kIsNot_non, kIsNot_bl, kIsNot_int, kIsNot_str, kIsNot_tup, kIsNot_ref, opAdd_int, opAdd_str, opSub_int, opMul_int, opDiv_int, opMod_int, opPow_int, opAnd_int, opOr_int, opNeg_int, eChain_at, kc1_some, kc2_some, kc3_true, kc3_false, kc4_some, tOf_at, kTru_some, kTru2_some, truD_non, truD_bl, truD_int, truD_tup, tAnd_at, kAnd_true, kAnd_false, tOr_at, kOr_true, kOr_false, tNot_at, kNot_some, tYes_at, eAnd_at, keAnd_some, keAnd2_true, keAnd2_false, eOr_at, keOr_some, keOr2_true, keOr2_false, eNot_at, keNot_some, keNot2_some, eIf_at, keIf_true, keIf_false, aNil_at, aCons_at, ka1_some, ka2_some, eTup_at, kTup_0, kTup_1, kTup_2, kTup_3, kTup_4, kTup_5, kTup_6, eLst_at, kLst_0, kLst_1, kLst_2, kLst_3, kLst_4, eDic0_at, eCall_at, kCall_some, o1_at, isiO_at, kIsi_some, tyD_non, tyD_bl, tyD_int, tyD_str, tyD_tup, eBM_at, kbm1_some, kbm2_some, eSl_at, ks2_some, ks3_some, ks4_some, oNone_at, oSome_at, kSome_int, slO_str, sSeq_at, kSeq_nx, kSeq_rt, kSeq_bk, kSeq_ct, sNext_at, sBreak_at, sCont_at, sRetN_at, sRet_at, kRet_some, sExpr_at, kExpr_some, sSet_at, kSet_some, sIf_at, kIf_true, kIf_false, sPar2_k, kPar2_some, sPar3_k, kPar3_some, sAsg_at, kAsg_some, kAsg2_some, mName_at, mTup_2, mTup_3, mCons_at, kmCons_some, mNil_at, sPut_at, kp1_some, kp2_some, kp3_some, kp4_some, kFn_rt, kFn_nx, mkFn_0, mkFn_1, mkFn_2, mkFn_3, mkFn_4, mkFn_5, sWhile_at, List.getElem?_cons_zero, List.getElem?_cons_succ, List.set_cons_zero, List.set_cons_succ, List.replicate_succ, List.replicate_zero, Nat.reduceSub, Bool.not_true, Bool.not_false, ite_true, ite_false, if_true, if_false, reduceCtorEq, cDv_2, cMd_2, gDv_2, gMd_2, cMr_2, cMl_2, cDv_3, cMd_3, gDv_3, gMd_3, cMr_3, cMl_3, cDv_4, cMd_4, gDv_4, gMd_4, cMr_4, cMl_4, cDv_5, cMd_5, gDv_5, gMd_5, cMr_5, cMl_5, cDv_6, cMd_6, gDv_6, gMd_6, cMr_6, cMl_6, cDv_7, cMd_7, gDv_7, gMd_7, cMr_7, cMl_7, cDv_8, cMd_8, gDv_8, gMd_8, cMr_8, cMl_8, cDv_12, cMd_12, gDv_12, gMd_12, cMr_12, cMl_12, cDv_15, cMd_15, gDv_15, gMd_15, cMr_15, cMl_15, cDv_30, cMd_30, gDv_30, gMd_30, cMr_30, cMl_30, cDv_31, cMd_31, gDv_31, gMd_31, cMr_31, cMl_31, cDv_40, cMd_40, gDv_40, gMd_40, cMr_40, cMl_40, cDv_57, cMd_57, gDv_57, gMd_57, cMr_57, cMl_57, cDv_60, cMd_60, gDv_60, gMd_60, cMr_60, cMl_60, cDv_94, cMd_94, gDv_94, gMd_94, cMr_94, cMl_94, cDv_240, cMd_240, gDv_240, gMd_240, cMr_240, cMl_240, cDv_7919, cMd_7919, gDv_7919, gMd_7919, cMr_7919, cMl_7919, cDv_16807, cMd_16807, gDv_16807, gMd_16807, cMr_16807, cMl_16807, cDv_48271, cMd_48271, gDv_48271, gMd_48271, cMr_48271, cMl_48271, cDv_1000000007, cMd_1000000007, gDv_1000000007, gMd_1000000007, cMr_1000000007, cMl_1000000007, cDv_2147483629, cMd_2147483629, gDv_2147483629, gMd_2147483629, cMr_2147483629, cMl_2147483629, cDv_2147483647, cMd_2147483647, gDv_2147483647, gMd_2147483647, cMr_2147483647, cMl_2147483647, ec, e2, e3]) (by rw [List.length_range]; unfold LIM; omega)
  obtain ⟨ys, rfl, hy, ly⟩ := paired_str p
  refine ⟨ys, x, e1, ?_, hy⟩
  rw [ly, List.filter_eq_self.mpr (fun _ _ => rfl), List.length_range]
theorem l1_loop {R F : Nat} {rows : List (List Nat)} (hRF : R ≠ F) (hne : rows ≠ []) (hr : ∀ l ∈ rows, Row l) (hn : rows.length ≤ 40) (es : List Ey) (st : Sto) (x0 x1 x4 x5 x6 x7 : Option D) (hR : st[R]? = some (.lst (rows.map D.str))) (hF : st[F]? = some (.lst (es.map Ey.ed))) (hT : ∀ e ∈ es, TO F (wdO e.l) st e.d) (hm : (es.map fun e => entP e.i e.l) = ents 0 rows) :
    ∃ (st' : Sto) (y6 : Option D), sFor (iR1 (aCons (eC (.int 2)) aNil)) (mName 7) uF_law_1 [x0, x1, some (.ref R), some (.ref F), x4, x5, x6, x7] st = some (.nx, [x0, x1, some (.ref R), some (.ref F), x4, x5, y6, some (.int 1)], st') := by
  obtain ⟨s1, y6, e1, o1⟩ := l1_turn hRF hne hr hn es st x0 x1 x4 x5 x6 (some (.int 0)) hR hF hT hm
  obtain ⟨s2, z6, e2, o2⟩ := l1_turn hRF hne hr hn es s1 x0 x1 x4 x5 y6 (some (.int 1)) (o1 _ _ (by simp) hR) (o1 _ _ (by simp) hF) (fun e he => (hT e he).only0 o1) hm
  refine ⟨s2, z6, ?_⟩
  rw [sFor_run (ds := rngD 0 2) (st' := st)]
  · rw [rngD_succ, loopF_cons]
    show kF1 (mName 7) uF_law_1 (rngD (0 + 1) 1) st (some [x0, x1, some (.ref R), some (.ref F), x4, x5, x6, some (.int 0)]) = _
    rw [kF1_some, e1, kF2_nx, rngD_succ, loopF_cons]
    show kF1 (mName 7) uF_law_1 (rngD (0 + 1 + 1) 0) s1 (some [x0, x1, some (.ref R), some (.ref F), x4, x5, y6, some (.int 1)]) = _
    rw [kF1_some, e2, kF2_nx]
    exact loopF_nil
  · rw [iR1_at]
    exact kR1_some (n := 2) (by decide)
theorem law_true (ns : List Int) (hns : ns.length ≤ 63) : ∃ st', F_law [.ref 0] [.fz (ns.map D.int)] = some (.bl true, st') := by
  obtain ⟨x, ex⟩ := cell_at (k := 0) (st := [.fz (ns.map D.int)]) (j := 0) (ns := ns) rfl
  have ex : F_l_cell_at [.ref 0, .int 0] [.fz (ns.map D.int)] = some (.int x, [.fz (ns.map D.int)]) := ex
  obtain ⟨many, hm⟩ := Int.eq_ofNat_of_zero_le (show 0 ≤ 1 + x % 30 by omega)
  have m30 : many ≤ 30 := by omega
  have m1 : 1 ≤ many := by omega
  obtain ⟨rows, g, er, hl, hr⟩ := rows_made (ns := ns) m30 (.int (many : Nat)) [.fz (ns.map D.int)] rfl rfl none none none none none
  have hR : ([Ob.fz (ns.map D.int)] ++ Ob.lst (rows.map D.str) :: g)[1]? = some (.lst (rows.map D.str)) := rfl
  generalize hs1 : [Ob.fz (ns.map D.int)] ++ Ob.lst (rows.map D.str) :: g = s1 at er hR
  have hR2 : (s1 ++ [Ob.lst []])[1]? = some (.lst (rows.map D.str)) := get_grow hR
  have hF : (s1 ++ [Ob.lst []])[s1.length]? = some (.lst (([] : List Ey).map Ey.ed)) := at_end _ _ []
  have hRF : 1 ≠ s1.length := by
    have := (List.getElem?_eq_some_iff.mp hR).1
    omega
  obtain ⟨es, s2, y4, y5, y6, e2, o2, hF2, hT2, hm2⟩ := l2_loop hRF (some (.ref 0)) (some (.int (many : Nat))) none rows [] [] (s1 ++ [.lst []]) none none none rfl hr hR2 hF (fun e he => by cases he) (by simp; omega)
  have ef1 : sFor (iR1 (aCons (eVar 1) aNil)) (mName 4) uF_law_2 [some (.ref 0), some (.int (many : Nat)), some (.ref 1), some (.ref s1.length), none, none, none, none] (s1 ++ [.lst []]) = some (.nx, [some (.ref 0), some (.int (many : Nat)), some (.ref 1), some (.ref s1.length), y4, y5, y6, none], s2) := by
    rw [sFor_run (ds := rngD 0 many) (st' := s1 ++ [.lst []])]
    · rw [hl] at e2
      exact e2
    · rw [iR1_at]
      exact kR1_some (n := many) (by unfold LIM; omega)
  have hne : rows ≠ [] := fun z => by
    rw [z] at hl
    simp at hl
    omega
  obtain ⟨s3, z6, e3⟩ := l1_loop hRF hne hr (by omega) es s2 (some (.ref 0)) (some (.int (many : Nat))) y4 y5 y6 none (o2 _ _ (fun z => hRF (List.mem_singleton.mp z)) hR2) hF2 hT2 hm2
  have er : eLc [4] (iR1 (aCons (eVar 1) aNil)) (mName 4) tYesM eC_law_3 [some (.ref 0), some (.int (many : Nat)), none, none, none, none, none, none] [.fz (ns.map D.int)] = some (.ref 1, s1) := er
  refine ⟨s3, ?_⟩
  simp only [F_law, b_law, eVar_at, kVar_some, eC_at, eBin_at, k2_some, k3_some, eUn_at, k1_some, kVal_some, kBl_some, kEq_at, kBlN_some, kNe_at, kIn_at, kNotIn_at, kIx_at, ixO_tup, kLt_int, kLe_int, kGt_int, kGe_int, kLt_str, kLe_str, kGt_str, kGe_str, kIs_non, kIs_bl, kIs_int, kIs_str, kIs_tup, kIs_ref, kIsNot_non, kIsNot_bl, kIsNot_int, kIsNot_str, kIsNot_tup, kIsNot_ref, opAdd_int, opAdd_str, opSub_int, opMul_int, opDiv_int, opMod_int, opPow_int, opAnd_int, opOr_int, opNeg_int, eChain_at, kc1_some, kc2_some, kc3_true, kc3_false, kc4_some, tOf_at, kTru_some, kTru2_some, truD_non, truD_bl, truD_int, truD_tup, tAnd_at, kAnd_true, kAnd_false, tOr_at, kOr_true, kOr_false, tNot_at, kNot_some, tYes_at, eAnd_at, keAnd_some, keAnd2_true, keAnd2_false, eOr_at, keOr_some, keOr2_true, keOr2_false, eNot_at, keNot_some, keNot2_some, eIf_at, keIf_true, keIf_false, aNil_at, aCons_at, ka1_some, ka2_some, eTup_at, kTup_0, kTup_1, kTup_2, kTup_3, kTup_4, kTup_5, kTup_6, eLst_at, kLst_0, kLst_1, kLst_2, kLst_3, kLst_4, eDic0_at, eCall_at, kCall_some, o1_at, isiO_at, kIsi_some, tyD_non, tyD_bl, tyD_int, tyD_str, tyD_tup, eBM_at, kbm1_some, kbm2_some, eSl_at, ks2_some, ks3_some, ks4_some, oNone_at, oSome_at, kSome_int, slO_str, sSeq_at, kSeq_nx, kSeq_rt, kSeq_bk, kSeq_ct, sNext_at, sBreak_at, sCont_at, sRetN_at, sRet_at, kRet_some, sExpr_at, kExpr_some, sSet_at, kSet_some, sIf_at, kIf_true, kIf_false, sPar2_k, kPar2_some, sPar3_k, kPar3_some, sAsg_at, kAsg_some, kAsg2_some, mName_at, mTup_2, mTup_3, mCons_at, kmCons_some, mNil_at, sPut_at, kp1_some, kp2_some, kp3_some, kp4_some, kFn_rt, kFn_nx, mkFn_0, mkFn_1, mkFn_2, mkFn_3, mkFn_4, mkFn_5, sWhile_at, List.getElem?_cons_zero, List.getElem?_cons_succ, List.set_cons_zero, List.set_cons_succ, List.replicate_succ, List.replicate_zero, Nat.reduceSub, Bool.not_true, Bool.not_false, ite_true, ite_false, if_true, if_false, reduceCtorEq, cDv_2, cMd_2, gDv_2, gMd_2, cMr_2, cMl_2, cDv_3, cMd_3, gDv_3, gMd_3, cMr_3, cMl_3, cDv_4, cMd_4, gDv_4, gMd_4, cMr_4, cMl_4, cDv_5, cMd_5, gDv_5, gMd_5, cMr_5, cMl_5, cDv_6, cMd_6, gDv_6, gMd_6, cMr_6, cMl_6, cDv_7, cMd_7, gDv_7, gMd_7, cMr_7, cMl_7, cDv_8, cMd_8, gDv_8, gMd_8, cMr_8, cMl_8, cDv_12, cMd_12, gDv_12, gMd_12, cMr_12, cMl_12, cDv_15, cMd_15, gDv_15, gMd_15, cMr_15, cMl_15, cDv_30, cMd_30, gDv_30, gMd_30, cMr_30, cMl_30, cDv_31, cMd_31, gDv_31, gMd_31, cMr_31, cMl_31, cDv_40, cMd_40, gDv_40, gMd_40, cMr_40, cMl_40, cDv_57, cMd_57, gDv_57, gMd_57, cMr_57, cMl_57, cDv_60, cMd_60, gDv_60, gMd_60, cMr_60, cMl_60, cDv_94, cMd_94, gDv_94, gMd_94, cMr_94, cMl_94, cDv_240, cMd_240, gDv_240, gMd_240, cMr_240, cMl_240, cDv_7919, cMd_7919, gDv_7919, gMd_7919, cMr_7919, cMl_7919, cDv_16807, cMd_16807, gDv_16807, gMd_16807, cMr_16807, cMl_16807, cDv_48271, cMd_48271, gDv_48271, gMd_48271, cMr_48271, cMl_48271, cDv_1000000007, cMd_1000000007, gDv_1000000007, gMd_1000000007, cMr_1000000007, cMl_1000000007, cDv_2147483629, cMd_2147483629, gDv_2147483629, gMd_2147483629, cMr_2147483629, cMl_2147483629, cDv_2147483647, cMd_2147483647, gDv_2147483647, gMd_2147483647, cMr_2147483647, cMl_2147483647, ex, hm, er, ef1, e3]
end Math

open PySem PySem.W PyProof.Rows
set_option maxRecDepth 100000 in
set_option maxHeartbeats 0 in
theorem PySem.Challenge.cw_grassnake_k02_rows_and_indents_holds : PySem.Challenge.rw_grassnake_k02_rows_and_indents.Holds := by
  w_on; o_law; k_head; (case hw => w_witness2)
  k_fill
  refine MP.walkG (l := PySem.Challenge.rw_grassnake_k02_rows_and_indents) (x := "_law_script") (k := 7) rfl rfl ⟨rfl, by decide, by decide⟩ (fun w h Y => PySem.W.kIn_of Y) ?F
  case F =>
    intro w mg fa h KX G hmg
    refine' Text.all_mk KX G hmg ?a0 ?l0 ?c0 ?k0 ?a1 ?l1 ?c1 ?k1 ?a2 ?l2 ?c2 ?k2 ?a3 ?l3 ?c3 ?k3 ?a4 ?l4 ?c4 ?k4 ?a5 ?l5 ?c5 ?k5 ?a6 ?l6 ?c6 ?k6 ?a7 ?l7 ?c7 ?k7 ?a8 ?l8 ?c8 ?k8 ?a9 ?l9 ?c9 ?k9 ?a10 ?l10 ?c10 ?k10 ?a11 ?l11 ?c11 ?k11 ?a12 ?l12 ?c12 ?k12 ?a13 ?l13 ?c13 ?k13 ?a14 ?l14 ?c14 ?k14 ?a15 ?l15 ?c15 ?k15 ?a16 ?l16 ?c16 ?k16 ?a17 ?l17 ?c17 ?k17 ?a18 ?l18 ?c18 ?k18 ?n_FIGURES ?n_LETTERS ?n_LONG_MARKS ?kl1 ?n_MOST_BLOCKS ?n_MOST_SIGNS ?n_MOST_TEXT ?n_SHORT_MARKS ?n_STEP ?n_TOLD ?kl10 ?n_TOLD_TOO ?kl24 ?z_all ?z_bool ?z_divmod ?z_enumerate ?z_int ?z_isinstance ?z_len ?z_list ?z_range ?z_repr ?z_str Math.law_true
    (case a0 => k_is)
    (case l0 => k_is)
    (case c0 => k_is)
    (case k0 => k_is)
    (case a1 => k_is)
    (case l1 => k_is)
    (case c1 => k_is)
    (case k1 => k_is)
    (case a2 => k_is)
    (case l2 => k_is)
    (case c2 => k_is)
    (case k2 => k_is)
    (case a3 => k_is)
    (case l3 => k_is)
    (case c3 => k_is)
    (case k3 => k_is)
    (case a4 => k_is)
    (case l4 => k_is)
    (case c4 => k_is)
    (case k4 => k_is)
    (case a5 => k_is)
    (case l5 => k_is)
    (case c5 => k_is)
    (case k5 => k_is)
    (case a6 => k_is)
    (case l6 => k_is)
    (case c6 => k_is)
    (case k6 => k_is)
    (case a7 => k_is)
    (case l7 => k_is)
    (case c7 => k_is)
    (case k7 => k_is)
    (case a8 => k_is)
    (case l8 => k_is)
    (case c8 => k_is)
    (case k8 => k_is)
    (case a9 => k_is)
    (case l9 => k_is)
    (case c9 => k_is)
    (case k9 => k_is)
    (case a10 => k_is)
    (case l10 => k_is)
    (case c10 => k_is)
    (case k10 => k_is)
    (case a11 => k_is)
    (case l11 => k_is)
    (case c11 => k_is)
    (case k11 => k_is)
    (case a12 => k_is)
    (case l12 => k_is)
    (case c12 => k_is)
    (case k12 => k_is)
    (case a13 => k_is)
    (case l13 => k_is)
    (case c13 => k_is)
    (case k13 => k_is)
    (case a14 => k_is)
    (case l14 => k_is)
    (case c14 => k_is)
    (case k14 => k_is)
    (case a15 => k_is)
    (case l15 => k_is)
    (case c15 => k_is)
    (case k15 => k_is)
    (case a16 => k_is)
    (case l16 => k_is)
    (case c16 => k_is)
    (case k16 => k_is)
    (case a17 => k_is)
    (case l17 => k_is)
    (case c17 => k_is)
    (case k17 => k_is)
    (case a18 => k_is)
    (case l18 => k_is)
    (case c18 => k_is)
    (case k18 => k_is)
    (case n_FIGURES => k_is)
    (case n_LETTERS => k_is)
    (case n_LONG_MARKS => k_is)
    (case kl1 => k_is)
    (case n_MOST_BLOCKS => k_is)
    (case n_MOST_SIGNS => k_is)
    (case n_MOST_TEXT => k_is)
    (case n_SHORT_MARKS => k_is)
    (case n_STEP => k_is)
    (case n_TOLD => k_is)
    (case kl10 => k_is)
    (case n_TOLD_TOO => k_is)
    (case kl24 => k_is)
    (case z_all => k_is)
    (case z_bool => k_is)
    (case z_divmod => k_is)
    (case z_enumerate => k_is)
    (case z_int => k_is)
    (case z_isinstance => k_is)
    (case z_len => k_is)
    (case z_list => k_is)
    (case z_range => k_is)
    (case z_repr => k_is)
    (case z_str => k_is)
#print axioms PySem.Challenge.cw_grassnake_k02_rows_and_indents_holds
